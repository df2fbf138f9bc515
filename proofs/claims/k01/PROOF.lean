import PyProof.Rows.All
import Wide.All
import OpenK.AllK
import Wide.FinOn
import HandS.Base
import HandS.Call
import HandS.CallRecv
import HandS.CallSlots
import HandS.ClsMeth
import HandS.Comp
import HandS.Conv
import HandS.Deep
import HandS.Defaults
import HandS.Flow
import HandS.ForExc
import HandS.ForMost
import HandS.Head2
import HandS.HeadEnd
import HandS.HeadNt
import HandS.IsInst
import HandS.Iter
import HandS.List
import HandS.MakeKw
import HandS.More
import HandS.NamedTupSort
import HandS.Property
import HandS.Small
import HandS.Strs
import HandS.Style
import HandS.Text
import HandS.TupAny
import HandS.TupLen
import HandS.Walk
import HandS.Wide
import HandS.Zip
import KE.DataEq
import PyProof.AutoSeq1
import PyProof.InstEq
import Lean
import PySem.Challenge.RW_lastnumbers_k01_trees_of_shapes
set_option Elab.async false
set_option linter.all false
set_option maxRecDepth 100000
set_option maxHeartbeats 4000000
/-! PV0: the set of a list of texts -/
namespace PV
open PySem PySem.Spec PyProof.Rows
/-- the different texts of a list, each where it stands first -/
def stepS (acc : List Str) (x : Str) : List Str := if acc.any (· == x) then acc else acc ++ [x]
def met (xs : List Str) : List Str := xs.foldl stepS []
theorem met_snoc (xs : List Str) (x : Str) : met (xs ++ [x]) = stepS (met xs) x := by
  unfold met
  rw [List.foldl_append]; rfl
theorem met_le (xs : List Str) : (met xs).length ≤ xs.length := by
  have key : ∀ (xs acc : List Str), (xs.foldl stepS acc).length ≤ acc.length + xs.length := by
    intro xs
    induction xs with
    | nil => intro acc; exact Nat.le_refl _
    | cons x xs ih =>
      intro acc
      have h1 : (stepS acc x).length ≤ acc.length + 1 := by
        unfold stepS
        split
        · omega
        · rw [List.length_append, List.length_singleton]; omega
      have := ih (stepS acc x)
      show (xs.foldl stepS (stepS acc x)).length ≤ acc.length + (xs.length + 1)
      omega
  have := key xs []
  simpa [met] using this
theorem met_any (acc : List Str) (x k : Str) : (acc.any (· == k) || decide (k = x)) = (stepS acc x).any (· == k) := by
  unfold stepS
  by_cases h : acc.any (· == x) = true
  · rw [if_pos h]
    by_cases e : k = x
    · subst e; rw [h]; simp
    · simp [e]
  · rw [if_neg h, List.any_append]
    congr 1
    by_cases e : k = x
    · subst e; simp
    · have : (x == k) = false := beq_eq_false_iff_ne.mpr fun z => e z.symm
      simp [e, this]
theorem met_len (acc : List Str) (x : Str) : (if acc.any (· == x) = true then acc.length else acc.length + 1) = (stepS acc x).length := by
  unfold stepS
  by_cases h : acc.any (· == x) = true
  · rw [if_pos h, if_pos h]
  · rw [if_neg h, if_neg h]; simp
section
variable {prog : Program} {w : World} {A : Around} {R : Result → Shared → Prop} {I : Addr} {fp wr : List Addr} {G : Array GenState → Array GenState → Prop} {n : Nat} {P : Nat → Value → Prop} {St : Nat → Shared → Prop}
theorem loopSt (W : WalksS prog w A.in1 I fp wr G n P St) (S : Addr) (hSf : S ∉ fp) (xs : List Str) (hsz : xs.length = n) (hb : n + 1 < scanBound)
    (hval : ∀ i v, P i v → ∃ t, v = .str (xs.getD i Str.empty) t) :
    ∀ (k i : Nat) (s : Shared), n - i = k → i ≤ n → St i s →
      s.heap.SetOf (PySem.strKind prog w) S (fun k' => (met (xs.take i)).any (· == k')) (met (xs.take i)).length →
      (∀ s', Moved (S :: wr) G s s' → s'.heap.SetOf (PySem.strKind prog w) S (fun k' => (met (xs.take n)).any (· == k')) (met (xs.take n)).length → R (.ok (.ret .none)) s') →
      codeAny (model prog w) A (.builtin "set.update.loop" ⟨[.ref S, .ref I], []⟩) R s := by
  have hSw : S ∉ wr := fun h => hSf (W.sub _ h)
  have hsub : ∀ b ∈ wr, b ∈ S :: wr := fun b hb => List.mem_cons_of_mem _ hb
  intro k
  induction k with
  | zero =>
    intro i s hk hi hst hS hR
    have hin : i = n := by omega
    subst hin
    refine codeAny_builtin PyProof.Rows.F.entry_set_update_loop ?_
    rw [Around.under_plainId PyProof.Rows.F.plain_set_update_loop _]
    show wpAny _ A.in1 (pyNext (.ref I) >>= _) _ _ s
    refine wpAny_bind (W.done s _ _ hst fun s' hm => ?_)
    show wpAny _ A.in1 (ret Value.none) _ _ s'
    exact wpAny_pure (hR s' (hm.mono hsub) (by
      obtain ⟨o, es, ep, t, ho, rest⟩ := hS
      exact ⟨o, es, ep, t, hm.heap S _ hSw ho, rest⟩))
  | succ k ih =>
    intro i s hk hi hst hS hR
    have hlt : i < n := by omega
    refine codeAny_builtin PyProof.Rows.F.entry_set_update_loop ?_
    rw [Around.under_plainId PyProof.Rows.F.plain_set_update_loop _]
    show wpAny _ A.in1 (pyNext (.ref I) >>= _) _ _ s
    refine wpAny_bind (W.item i s _ _ hlt hst fun v s' hP hst' hm => ?_)
    obtain ⟨t, rfl⟩ := hval i v hP
    have hS' : s'.heap.SetOf (PySem.strKind prog w) S (fun k' => (met (xs.take i)).any (· == k')) (met (xs.take i)).length := by
      obtain ⟨o, es, ep, tb, ho, rest⟩ := hS
      exact ⟨o, es, ep, tb, hm.heap S _ hSw ho, rest⟩
    show wpAny _ A.in1 (holding [Value.str (xs.getD i Str.empty) t] (setAdd S (.str (xs.getD i Str.empty) t)) >>= _) _ _ s'
    refine wpAny_bind (wpAny_holding ?_)
    unfold setAdd
    refine wpAny_holding ?_
    refine wpAny_bind ((PySem.strKind prog w).pyHash (k := xs.getD i Str.empty) (strKind_is _ _ _ _) ?_)
    refine wpAny_setAddHashed_of (knd := PySem.strKind prog w) (s := { s' with toks := s'.toks + 1 }) (strKind_is _ _ _ _) rfl hS' (by have := met_le (xs.take i); rw [List.length_take] at this; omega) fun h' hsb hS2 => ?_
    have hti : xs.take (i + 1) = xs.take i ++ [xs.getD i Str.empty] := by
      have hlx : i < xs.length := by omega
      rw [List.take_add_one, List.getElem?_eq_getElem hlx, List.getD_eq_getElem?_getD, List.getElem?_eq_getElem hlx]; rfl
    have hSi : h'.SetOf (PySem.strKind prog w) S (fun k' => (met (xs.take (i + 1))).any (· == k')) (met (xs.take (i + 1))).length := by
      rw [hti, met_snoc]
      exact SetOf_congr hS2 (fun k' => met_any _ _ _) (met_len _ _)
    refine wpAny_pure ⟨plainId_quiet PyProof.Rows.F.plain_set_update_loop _, ih (i + 1) _ (by omega) hlt (W.frame _ s' _ _ hst' (Nat.le_succ _) fun b hb o e => ?_) hSi fun s'' hm'' hS'' => ?_⟩
    · rw [hsb.2 b (fun h : b = S => hSf (by rw [← h]; exact hb))]; exact e
    · refine hR s'' (Moved.trans W.gtrans ((hm.mono hsub).then_heap (Nat.le_succ _) fun b o hb e => ?_) hm'') hS''
      rw [hsb.2 b (fun h : b = S => hb (by rw [h]; exact List.mem_cons_self))]; exact e
end
set_option maxHeartbeats 3200000 in
theorem call_set_listN {l : Addr} {items : Array Value} {xs : List Str} {Q : Value → Shared → Prop}
    (hh : A.handled = none) (hl : s.heap.IsList l items) (hi : PyProof.Rows.StrsAre items.toList xs) (hn1 : xs.length + 1 < scanBound)
    (h : ∀ (h' : Heap) (tk : Nat), h'.SetOf (PySem.strKind prog w) s.heap.objs.size (fun k' => (met (xs.take items.size)).any (· == k')) (met (xs.take items.size)).length →
      (∀ b o, b < s.heap.objs.size → s.heap.get? b = some o → h'.get? b = some o) → Q (.ref s.heap.objs.size) { s with heap := h', toks := tk }) :
    wpAny (model prog w) A (call (.type "set") [.ref l]) Q E s := by
  obtain ⟨c, tl, hmro⟩ := PySem.F.called_set.mro
  have hmade := PySem.F.called_set.made
  have hsub := PySem.F.called_set.sub
  refine wpAny_call (codeAny_of_tree ?_)
  show wpAny _ _ (callAny (.type "set") _) _ _ _
  refine wpAny_pure ⟨Code.quiet_builtin _ (by decide +kernel), codeAny_builtin PySem.F.entry_type_call ?_⟩
  rw [Around.under_plain (weight_type_call_type "set" [.ref l] []) rfl]
  have h1 := PySem.F.called_set.notType
  have h2 := PySem.F.called_set.canCreate
  have hct := PySem.F.typeCall_set_1 (.ref l)
  repeat (any_goals (first | assumption | wp_step))
  refine codeAny_mono (code_set_new_1 (.ref l) (E := E) (Q₁ := fun obj s₁ => ∃ led : Bool, obj = .ref s.heap.objs.size ∧ s₁ = { s with heap := s.heap.push { cls := .type "set", dict := none, data := .set #[] 0 (.fresh 0 0 led) } }) fun led => ⟨led, rfl, rfl⟩) fun r s₁ hr => ?_
  cases r with
  | error e => exact hr
  | ok fl =>
    cases fl with
    | ret obj =>
      obtain ⟨led, rfl, rfl⟩ := hr
      have hS : (s.heap.push { cls := .type "set", dict := none, data := .set #[] 0 (.fresh 0 0 led) }).get? s.heap.objs.size = some { cls := .type "set", dict := none, data := .set #[] 0 (.fresh 0 0 led) } := Heap.get?_push_size _ rfl
      have hT : Shared.TypeIs { s with heap := s.heap.push { cls := .type "set", dict := none, data := .set #[] 0 (.fresh 0 0 led) } } (.ref s.heap.objs.size) "set" := ⟨_, hS, rfl⟩
      have hli := PySem.F.called_set.init.lookup
      have hbi := PySem.F.called_set.init.bind (.ref s.heap.objs.size)
      repeat (any_goals (first | assumption | wp_step))
      refine codeAny_mono (codeAny_call_builtin (R := wants (fun r s₂ => r = .none ∧ ∃ h' tk, s₂ = { s with heap := h', toks := tk } ∧
          h'.SetOf (PySem.strKind prog w) s.heap.objs.size (fun k' => (met (xs.take items.size)).any (· == k')) (met (xs.take items.size)).length ∧
          (∀ b o, b < s.heap.objs.size → s.heap.get? b = some o → h'.get? b = some o)) E) PySem.F.called_set.init.plain PySem.F.entry_set_init (check_set_init_1 hT ?_)) fun r₂ s₂ hr₂ => ?_
      · obtain ⟨ol, hol, hcl, nl, hdl⟩ := hl
        obtain ⟨ocls, odict, odata, oslots⟩ := ol
        simp only at hcl hdl
        subst hcl; subst hdl
        have hol' : (s.heap.push { cls := .type "set", dict := none, data := .set #[] 0 (.fresh 0 0 led) }).get? l = some { cls := .type "list", dict := odict, data := .seq items nl, slots := oslots } := Heap.get?_push_of_some _ hol
        have hsls := PySem.F.sub_list_set
        have hslf := PySem.F.sub_list_frozenset
        have hne : (Value.type "list" == Value.type "dict") = false := by decide
        have hl1 : (s.heap.push { cls := .type "set", dict := none, data := .set #[] 0 (.fresh 0 0 led) }).IsList l items := ⟨_, hol', rfl, nl, rfl⟩
        unfold Builtin.«set.__init__» noKeywords Builtin.Frozenset.updateFrom
        generalize hPI : pyIter = PI
        wp_walk
        subst hPI
        refine wpAny_pyIter_list hl1 ?_
        refine wpAny_bind (wpAny_runValue ?_)
        have hlS : l < s.heap.objs.size := Heap.lt_size hol
        have hh3 : A.in1.in1.in1.handled = none := by simp [hh]
        have hneI : l ≠ (s.heap.push { cls := .type "set", dict := none, data := .set #[] 0 (.fresh 0 0 led) }).objs.size := by
          rw [Heap.size_push]; exact Nat.ne_of_lt (Nat.lt_succ_of_lt hlS)
        have hSf : s.heap.objs.size ∉ [(s.heap.push { cls := .type "set", dict := none, data := .set #[] 0 (.fresh 0 0 led) }).objs.size, l] := by
          rw [Heap.size_push]; simp only [List.mem_cons, List.mem_singleton, List.not_mem_nil, or_false, not_or]
          exact ⟨Nat.ne_of_lt (Nat.lt_succ_self _), Nat.ne_of_gt hlS⟩
        have hsz : xs.length = items.size := by rw [← StrsAre.len_eq hi, Array.length_toList]
        have hval : ∀ (i : Nat) (v : Value), items[i]? = some v → ∃ t, v = .str (xs.getD i Str.empty) t := fun i v hv => SS.strs_at hi i v (by rw [Array.getElem?_toList]; exact hv)
        refine loopSt ((Walks.list hh3 _ l hneI items).toS) s.heap.objs.size
          hSf xs hsz (by rw [← hsz]; exact hn1) hval (items.size - 0) 0 _ (by omega) (Nat.zero_le _)
          ⟨⟨_, Heap.get?_push_size _ rfl, rfl, rfl⟩, (hl1.push _)⟩ ?hS0 ?hR
        case hS0 =>
          have hget : ((s.heap.push { cls := .type "set", dict := none, data := .set #[] 0 (.fresh 0 0 led) }).push { cls := .type "list_iterator", data := .fields #[.ref l, .int 0 0] }).get? s.heap.objs.size
              = some { cls := .type "set", dict := none, data := .set #[] 0 (.fresh 0 0 led) } := Heap.get?_push_of_some _ hS
          exact PyProof.Rows.SetOf_congr ((PyProof.Rows.setObjOf_fresh (knd := PySem.strKind prog w) led).setOf hget (by unfold scanBound; omega)) (fun _ => rfl) rfl
        case hR =>
          intro s' hm hS'
          obtain ⟨h', g', d', tk', os'⟩ := s'
          have eg : g' = s.gens := hm.gens
          have ed : d' = s.drawn := hm.drawn
          have eo : os' = s.os := hm.os
          subst eg; subst ed; subst eo
          show wpAny _ _ _ _ _ _
          refine wpAny_pure ?_
          show wpAny _ _ (ret Value.none) _ _ _
          refine wpAny_pure ⟨rfl, h', tk', rfl, hS', fun b o hb e => ?_⟩
          have hb1 : b ≠ s.heap.objs.size := Nat.ne_of_lt hb
          have hb2 : b ≠ (s.heap.push { cls := .type "set", dict := none, data := .set #[] 0 (.fresh 0 0 led) }).objs.size := by
            rw [Heap.size_push]; exact Nat.ne_of_lt (Nat.lt_succ_of_lt hb)
          exact hm.heap b o (by simp only [List.mem_cons, List.mem_singleton, List.not_mem_nil, or_false, not_or]; exact ⟨hb1, hb2⟩) (Heap.get?_push_of_some _ (Heap.get?_push_of_some _ e))
      · cases r₂ with
        | error e => exact hr₂
        | ok fl₂ =>
          cases fl₂ with
          | ret r =>
            obtain ⟨rfl, h', tk, rfl, hS', hk'⟩ := hr₂
            repeat (any_goals (first | assumption | wp_step))
            exact h _ _ hS' hk'
          | _ => exact hr₂.elim
    | _ => exact hr.elim
end PV
/-! PV1: plain data D, owned data O, how the heap bears them, the state's resources -/
namespace PV
open PySem L2
inductive D where
  | non | bl (b : Bool) | int (i : Int) | str (x : Str)
  | tup (xs : List D) | lst (xs : List D)
  | dic (ks vs : List D)
  | obj (C : Nat) (ns : List Str) (vs : List D)
  | exc (C : Nat) (p : List D)
inductive O where
  | d (x : D) | tup (xs : List O) | lst (xs : List O) | dic (ks : List D) (vs : List O) | obj (C : Nat) (ns : List Str) (vs : List O)
mutual
def O.frz : O → D
  | .d x => x
  | .tup xs => .tup (O.frzL xs)
  | .lst xs => .lst (O.frzL xs)
  | .dic ks vs => .dic ks (O.frzL vs)
  | .obj C ns vs => .obj C ns (O.frzL vs)
def O.frzL : List O → List D
  | [] => []
  | x :: xs => O.frz x :: O.frzL xs
end
theorem frzL_map : ∀ xs : List O, O.frzL xs = xs.map O.frz
  | [] => rfl
  | x :: xs => by rw [O.frzL, List.map_cons, frzL_map xs]
/-- a key of a dict as the layer has it -/
def keyOf : D → Option Key
  | .int i => some (.inl i)
  | .str x => some (.inr x)
  | _ => none
def keysOf : List D → Option (List Key)
  | [] => some []
  | d :: ds => match keyOf d, keysOf ds with
    | some k, some r => some (k :: r)
    | _, _ => none
def tkeyOf : D → Option (List Key)
  | .tup ds => if ds.length = 2 ∨ ds.length = 3 then keysOf ds else none
  | _ => none
def tkeysOf : List D → Option (List (List Key))
  | [] => some []
  | d :: ds => match tkeyOf d, tkeysOf ds with
    | some k, some r => some (k :: r)
    | _, _ => none
/-- what stands at a, behind a lock -/
noncomputable def vw (L : Addr → Prop) (H : Hp) : Hp := fun a => match H a with
  | some (.frz o u) => by classical exact if L a then some u else some (.frz o u)
  | x => x
/-- the class of number C stands at clsAt C; an exception class likewise -/
structure Tab where
  K : PySem.W.Frag
  cls : Nat → Addr
/-- a list of the module -/
def KL (K : PySem.W.Frag) (a : Addr) (xs : List V) : Prop := ∃ (o : Obj) (its : Array Value) (n : Nat), K.lookup a = some o ∧ o.cls = .type "list" ∧ o.dict = none ∧ o.data = .seq its n ∧ its.size ≤ sizeLine ∧ Vals xs its.toList
/-- a tuple of the module -/
def KTu (K : PySem.W.Frag) (a : Addr) (xs : List V) : Prop := ∃ (o : Obj) (its : Array Value) (n : Nat), K.lookup a = some o ∧ o.cls = .type "tuple" ∧ o.data = .seq its n ∧ its.size ≤ sizeLine ∧ Vals xs its.toList
/-- a tuple, made or of the module (such are no keys: those have two or three items) -/
def TupAt (K : PySem.W.Frag) (H : Hp) (n : Nat) (a : Addr) (vs : List V) : Prop := H a = some (.tup vs) ∨ ((n = 2 ∨ n = 3) → False) ∧ KTu K a vs
section
variable (T : Tab) (own : Addr → Prop) (H : Hp)
/-- an object of a class over an exception, in hand as a value: what is known of it -/
def ExcIs (C : Nat) (a : Addr) (d : Option Addr) : Prop := True
mutual
/-- v stands for d; no list, dict or instance in it is one of own -/
def Dr : D → V → Prop
  | .non, v => v = .non
  | .bl b, v => v = .bl b
  | .int i, v => v = .int i
  | .str x, v => v = .str x
  | .tup xs, v => ∃ a vs, v = .ref a ∧ TupAt T.K H xs.length a vs ∧ DrL xs vs
  | .lst xs, v => ∃ a vs, v = .ref a ∧ ((¬ own a ∧ Rd H a (.lst vs)) ∨ KL T.K a vs) ∧ DrL xs vs
  | .dic ks xs, v => ∃ a vs, v = .ref a ∧ ¬ own a ∧ ((∃ js, keysOf ks = some js ∧ H a = some (.dK (js.zip vs)) ∧ js.length = vs.length) ∨ (∃ js, tkeysOf ks = some js ∧ H a = some (.dT (js.zip vs)) ∧ js.length = vs.length)) ∧ DrL xs vs
  | .obj C ns xs, v => ∃ a dx vs, v = .ref a ∧ ¬ own a ∧ H a = some (.ins (T.cls C) dx (ns.zip vs)) ∧ ns.length = vs.length ∧ DrL xs vs
  | .exc C p, v => False
def DrL : List D → List V → Prop
  | [], vs => vs = []
  | x :: xs, vs => ∃ v r, vs = v :: r ∧ Dr x v ∧ DrL xs r
end
mutual
/-- v stands for o; F: its own lists, dicts and instances -/
def Or : O → V → List Addr → Prop
  | .d x, v, F => F = [] ∧ Dr T own H x v
  | .tup xs, v, F => ∃ a vs, v = .ref a ∧ H a = some (.tup vs) ∧ OrL xs vs F
  | .lst xs, v, F => ∃ a vs G, v = .ref a ∧ F = a :: G ∧ H a = some (.lst vs) ∧ OrL xs vs G
  | .dic ks xs, v, F => ∃ a vs G, v = .ref a ∧ F = a :: G ∧ ((∃ js, keysOf ks = some js ∧ H a = some (.dK (js.zip vs)) ∧ js.length = vs.length) ∨ (∃ js, tkeysOf ks = some js ∧ H a = some (.dT (js.zip vs)) ∧ js.length = vs.length)) ∧ OrL xs vs G
  | .obj C ns xs, v, F => ∃ a dx vs G, v = .ref a ∧ F = a :: G ∧ H a = some (.ins (T.cls C) dx (ns.zip vs)) ∧ ns.length = vs.length ∧ OrL xs vs G
def OrL : List O → List V → List Addr → Prop
  | [], vs, F => vs = [] ∧ F = []
  | x :: xs, vs, F => ∃ v r F1 F2, vs = v :: r ∧ F = F1 ++ F2 ∧ Or x v F1 ∧ OrL xs r F2
end
end
/-- what a change of the heap must keep of what is not our own -/
def Keep (own : Addr → Prop) (h h' : Hp) : Prop := ∀ a o, h a = some o → (own a → (∃ xs, o = .tup xs) ∨ ∃ ob u, o = .frz ob u) → h' a = some o
theorem Keep.refl {own : Addr → Prop} {h : Hp} : Keep own h h := fun _ _ e _ => e
section
variable {T : Tab} {own own' : Addr → Prop} {h h' : Hp}
theorem rd_keep {a : Addr} {u : HO} (k : Keep own h h') (n : ¬ own a) (e : Rd h a u) : Rd h' a u := by
  rcases e with e | ⟨o, e⟩
  · exact .inl (k a _ e fun z => (n z).elim)
  · exact .inr ⟨o, k a _ e fun z => (n z).elim⟩
theorem rd_there {a : Addr} {u : HO} (e : Rd h a u) : h a ≠ none := by
  rcases e with e | ⟨o, e⟩ <;> rw [e] <;> simp
theorem tupAt_keep {a : Addr} {n : Nat} {vs : List V} (k : Keep own h h') (e : TupAt T.K h n a vs) : TupAt T.K h' n a vs := e.imp (fun e => k a _ e fun _ => .inl ⟨_, rfl⟩) id
theorem TupAt.sq {K : PySem.W.Frag} {h : Hp} {a : Addr} {n : Nat} {vs : List V} (e : TupAt K h n a vs) : SqT K h a vs := e.imp (fun e => .inl e) And.right
mutual
theorem Dr.keep (k : Keep own h h') (s : ∀ a, own' a → own a ∨ h a = none) : ∀ (x : D) (v : V), Dr T own h x v → Dr T own' h' x v
  | .non, v, e => e
  | .bl b, v, e => e
  | .int i, v, e => e
  | .str x, v, e => e
  | .tup xs, v, e => by
    obtain ⟨a, vs, e1, e2, e3⟩ := e
    exact ⟨a, vs, e1, tupAt_keep k e2, Dr.keepL k s xs vs e3⟩
  | .lst xs, v, e => by
    obtain ⟨a, vs, e1, e2, e3⟩ := e
    refine ⟨a, vs, e1, ?_, Dr.keepL k s xs vs e3⟩
    rcases e2 with ⟨n, e2⟩ | e2
    · exact .inl ⟨fun z => n ((s a z).resolve_right (rd_there e2)), rd_keep k n e2⟩
    · exact .inr e2
  | .dic ks xs, v, e => by
    obtain ⟨a, vs, e1, n, e2, e3⟩ := e
    have th : h a ≠ none := by rcases e2 with ⟨js, _, q, _⟩ | ⟨js, _, q, _⟩ <;> rw [q] <;> simp
    refine ⟨a, vs, e1, fun z => n ((s a z).resolve_right th), ?_, Dr.keepL k s xs vs e3⟩
    rcases e2 with ⟨js, q1, q2, q3⟩ | ⟨js, q1, q2, q3⟩
    · exact .inl ⟨js, q1, k a _ q2 fun z => (n z).elim, q3⟩
    · exact .inr ⟨js, q1, k a _ q2 fun z => (n z).elim, q3⟩
  | .obj C ns xs, v, e => by
    obtain ⟨a, dx, vs, e1, n, e2, e3, e4⟩ := e
    exact ⟨a, dx, vs, e1, fun z => n ((s a z).resolve_right (by rw [e2]; simp)), k a _ e2 fun z => (n z).elim, e3, Dr.keepL k s xs vs e4⟩
  | .exc C p, v, e => e.elim
theorem Dr.keepL (k : Keep own h h') (s : ∀ a, own' a → own a ∨ h a = none) : ∀ (xs : List D) (vs : List V), DrL T own h xs vs → DrL T own' h' xs vs
  | [], vs, e => e
  | x :: xs, vs, e => by
    obtain ⟨v, r, e1, e2, e3⟩ := e
    exact ⟨v, r, e1, Dr.keep k s x v e2, Dr.keepL k s xs r e3⟩
end
mutual
theorem Or.keep (k : Keep own h h') (s : ∀ a, own' a → own a ∨ h a = none) : ∀ (x : O) (v : V) (F : List Addr), (∀ a ∈ F, h' a = h a) → Or T own h x v F → Or T own' h' x v F
  | .d x, v, F, _, e => ⟨e.1, Dr.keep k s x v e.2⟩
  | .tup xs, v, F, f, e => by
    obtain ⟨a, vs, e1, e2, e3⟩ := e
    exact ⟨a, vs, e1, k a _ e2 fun _ => .inl ⟨_, rfl⟩, Or.keepL k s xs vs F f e3⟩
  | .lst xs, v, F, f, e => by
    obtain ⟨a, vs, G, e1, rfl, e2, e3⟩ := e
    exact ⟨a, vs, G, e1, rfl, by rw [f a List.mem_cons_self]; exact e2, Or.keepL k s xs vs G (fun b hb => f b (List.mem_cons_of_mem _ hb)) e3⟩
  | .dic ks xs, v, F, f, e => by
    obtain ⟨a, vs, G, e1, rfl, e2, e3⟩ := e
    refine ⟨a, vs, G, e1, rfl, ?_, Or.keepL k s xs vs G (fun b hb => f b (List.mem_cons_of_mem _ hb)) e3⟩
    rw [f a List.mem_cons_self]
    exact e2
  | .obj C ns xs, v, F, f, e => by
    obtain ⟨a, dx, vs, G, e1, rfl, e2, e3, e4⟩ := e
    exact ⟨a, dx, vs, G, e1, rfl, by rw [f a List.mem_cons_self]; exact e2, e3, Or.keepL k s xs vs G (fun b hb => f b (List.mem_cons_of_mem _ hb)) e4⟩
theorem Or.keepL (k : Keep own h h') (s : ∀ a, own' a → own a ∨ h a = none) : ∀ (xs : List O) (vs : List V) (F : List Addr), (∀ a ∈ F, h' a = h a) → OrL T own h xs vs F → OrL T own' h' xs vs F
  | [], vs, F, _, e => e
  | x :: xs, vs, F, f, e => by
    obtain ⟨v, r, F1, F2, e1, rfl, e2, e3⟩ := e
    exact ⟨v, r, F1, F2, e1, rfl, Or.keep k s x v F1 (fun b hb => f b (List.mem_append_left _ hb)) e2, Or.keepL k s xs r F2 (fun b hb => f b (List.mem_append_right _ hb)) e3⟩
end
mutual
/-- what is no more our own -/
theorem Or.freeze (hn : ∀ a, own' a → own a ∨ h a = none) : ∀ (x : O) (v : V) (F : List Addr), (∀ a ∈ F, ¬ own' a) → Or T own h x v F → Dr T own' h x.frz v
  | .d x, v, F, _, e => Dr.keep Keep.refl hn x v e.2
  | .tup xs, v, F, f, e => by
    obtain ⟨a, vs, e1, e2, e3⟩ := e
    exact ⟨a, vs, e1, .inl e2, Or.freezeL hn xs vs F f e3⟩
  | .lst xs, v, F, f, e => by
    obtain ⟨a, vs, G, e1, rfl, e2, e3⟩ := e
    exact ⟨a, vs, e1, .inl ⟨f a List.mem_cons_self, .inl e2⟩, Or.freezeL hn xs vs G (fun b hb => f b (List.mem_cons_of_mem _ hb)) e3⟩
  | .dic ks xs, v, F, f, e => by
    obtain ⟨a, vs, G, e1, rfl, e2, e3⟩ := e
    exact ⟨a, vs, e1, f a List.mem_cons_self, e2, Or.freezeL hn xs vs G (fun b hb => f b (List.mem_cons_of_mem _ hb)) e3⟩
  | .obj C ns xs, v, F, f, e => by
    obtain ⟨a, dx, vs, G, e1, rfl, e2, e3, e4⟩ := e
    exact ⟨a, dx, vs, e1, f a List.mem_cons_self, e2, e3, Or.freezeL hn xs vs G (fun b hb => f b (List.mem_cons_of_mem _ hb)) e4⟩
theorem Or.freezeL (hn : ∀ a, own' a → own a ∨ h a = none) : ∀ (xs : List O) (vs : List V) (F : List Addr), (∀ a ∈ F, ¬ own' a) → OrL T own h xs vs F → DrL T own' h (O.frzL xs) vs
  | [], vs, F, _, e => e.1
  | x :: xs, vs, F, f, e => by
    obtain ⟨v, r, F1, F2, e1, rfl, e2, e3⟩ := e
    exact ⟨v, r, e1, Or.freeze hn x v F1 (fun b hb => f b (List.mem_append_left _ hb)) e2, Or.freezeL hn xs r F2 (fun b hb => f b (List.mem_append_right _ hb)) e3⟩
end
/-- read only: no thought of what is whose -/
theorem Or.read (x : O) (v : V) (F : List Addr) (e : Or T own h x v F) : Dr T (fun _ => False) h x.frz v := Or.freeze (fun _ z => z.elim) x v F (fun _ _ z => z) e
end
/-! ### the things at hand -/
abbrev It1 := O × V
section
variable (T : Tab) (own : Addr → Prop) (h : Hp)
def Reps : List It1 → List Addr → Prop
  | [], F => F = []
  | p :: r, F => ∃ F1 F2, F = F1 ++ F2 ∧ Or T own h p.1 p.2 F1 ∧ Reps r F2
end
section
variable {T : Tab} {own own' : Addr → Prop} {h h' : Hp}
theorem Reps.keep (k : Keep own h h') (s : ∀ a, own' a → own a ∨ h a = none) : ∀ (l : List It1) (F : List Addr), (∀ a ∈ F, h' a = h a) → Reps T own h l F → Reps T own' h' l F
  | [], F, _, e => e
  | p :: r, F, f, e => by
    obtain ⟨F1, F2, rfl, e1, e2⟩ := e
    exact ⟨F1, F2, rfl, Or.keep k s p.1 p.2 F1 (fun b hb => f b (List.mem_append_left _ hb)) e1, Reps.keep k s r F2 (fun b hb => f b (List.mem_append_right _ hb)) e2⟩
theorem Reps.append : ∀ {l m : List It1} {F G : List Addr}, Reps T own h l F → Reps T own h m G → Reps T own h (l ++ m) (F ++ G)
  | [], m, F, G, e, e' => by
    have e : F = [] := e
    subst e
    exact e'
  | p :: r, m, F, G, e, e' => by
    obtain ⟨F1, F2, rfl, e1, e2⟩ := e
    exact ⟨F1, F2 ++ G, by rw [List.append_assoc], e1, Reps.append e2 e'⟩
theorem Reps.split : ∀ {l m : List It1} {F : List Addr}, Reps T own h (l ++ m) F → ∃ F1 F2, F = F1 ++ F2 ∧ Reps T own h l F1 ∧ Reps T own h m F2
  | [], m, F, e => ⟨[], F, rfl, rfl, e⟩
  | p :: r, m, F, e => by
    obtain ⟨F1, F2, rfl, e1, e2⟩ := e
    obtain ⟨G1, G2, rfl, e3, e4⟩ := Reps.split e2
    exact ⟨F1 ++ G1, G2, by rw [List.append_assoc], ⟨F1, G1, rfl, e1, e3⟩, e4⟩
theorem Reps.perm {l m : List It1} (p : l.Perm m) : ∀ {F : List Addr}, Reps T own h l F → ∃ G, Reps T own h m G ∧ F.Perm G := by
  induction p with
  | nil => intro F e; exact ⟨F, e, .refl _⟩
  | cons x _ ih =>
    intro F e
    obtain ⟨F1, F2, rfl, e1, e2⟩ := e
    obtain ⟨G, e3, q⟩ := ih e2
    exact ⟨F1 ++ G, ⟨F1, G, rfl, e1, e3⟩, q.append_left F1⟩
  | swap x y l =>
    intro F e
    obtain ⟨F1, F2, rfl, e1, F3, F4, rfl, e2, e3⟩ := e
    refine ⟨F3 ++ (F1 ++ F4), ⟨F3, F1 ++ F4, rfl, e2, F1, F4, rfl, e1, e3⟩, ?_⟩
    rw [← List.append_assoc, ← List.append_assoc]
    exact List.perm_append_comm.append_right F4
  | trans _ _ ih1 ih2 =>
    intro F e
    obtain ⟨G, e1, q1⟩ := ih1 e
    obtain ⟨G', e2, q2⟩ := ih2 e1
    exact ⟨G', e2, q1.trans q2⟩
theorem Reps.ofL : ∀ {xs : List O} {vs : List V} {F : List Addr}, OrL T own h xs vs F → Reps T own h (xs.zip vs) F ∧ xs.length = vs.length
  | [], vs, F, e => by
    obtain ⟨rfl, rfl⟩ := e
    exact ⟨rfl, rfl⟩
  | x :: xs, vs, F, e => by
    obtain ⟨v, r, F1, F2, rfl, rfl, e1, e2⟩ := e
    obtain ⟨q1, q2⟩ := Reps.ofL e2
    exact ⟨⟨F1, F2, rfl, e1, q1⟩, by simp [q2]⟩
theorem Reps.toL : ∀ {xs : List O} {vs : List V} {F : List Addr}, xs.length = vs.length → Reps T own h (xs.zip vs) F → OrL T own h xs vs F
  | [], [], F, _, e => ⟨rfl, e⟩
  | [], _ :: _, F, l, e => by simp at l
  | _ :: _, [], F, l, e => by simp at l
  | x :: xs, v :: vs, F, l, e => by
    obtain ⟨F1, F2, rfl, e1, e2⟩ := e
    exact ⟨v, vs, F1, F2, rfl, rfl, e1, Reps.toL (by simpa using l) e2⟩
end
/-- the ground of a def's run: G: owned by others; Z: locked; H0: the heap at the entry; IO: what was handed over -/
structure Base where
  G : Addr → Prop
  Z : Addr → Prop
  H0 : Hp
  IO : Addr → Prop
  /-- slots whose values stay -/
  pr : List (Nat × V) := []
  /-- what stands behind a lock -/
  zo : Addr → PySem.Obj := fun _ => default
end PV
/-! PV2: the things at hand (Sat) and what may be done with them -/
namespace PV
open PySem L2
theorem vw_none {Z : Addr → Prop} {H : Hp} {a : Addr} : vw Z H a = none ↔ H a = none := by
  unfold vw
  split
  · rename_i o u e
    constructor
    · intro q
      split at q <;> cases q
    · intro q; rw [e] at q; cases q
  · exact Iff.rfl
theorem vw_free {Z : Addr → Prop} {H : Hp} {a : Addr} (h : ¬ Z a) : vw Z H a = H a := by
  unfold vw
  split
  · rename_i o u e
    rw [if_neg h, e]
  · rfl
theorem vw_some {Z : Addr → Prop} {H : Hp} {a : Addr} {u : HO} (e : vw Z H a = some u) : H a = some u ∨ (Z a ∧ ∃ o, H a = some (.frz o u)) := by
  unfold vw at e
  split at e
  · rename_i o u' e'
    split at e
    · rename_i hz
      cases e
      exact .inr ⟨hz, o, e'⟩
    · exact .inl (by rw [e']; exact e)
  · exact .inl e
theorem vw_upd {Z : Addr → Prop} {H : Hp} {p : Addr} {o : HO} (h : ¬ Z p) : vw Z (upd H p o) = upd (vw Z H) p o := by
  funext a
  by_cases e : a = p
  · subst e
    rw [vw_free h, upd_same, upd_same]
  · rw [upd_ne e]
    unfold vw
    rw [upd_ne e]
/-- what may be locked -/
def LD (u : HO) : Prop := match u with
  | .lst _ => True
  | .dK _ => True
  | .dT _ => True
  | _ => False
/-- the things l are at hand; each list, dict, instance of theirs is owned once; hs: owned too, no word of what stands there -/
structure SatH (T : Tab) (B : Base) (H : Hp) (hs : List Addr) (l : List It1) : Prop where
  lk : ∀ a, B.Z a → ∃ u, H a = some (.frz (B.zo a) u) ∧ LD u
  old : ∀ a o, B.H0 a = some o → ¬ B.IO a → vw B.Z H a = some o
  oth : ∀ a, B.G a → ¬ B.IO a ∧ B.H0 a ≠ none
  io : ∀ a, B.IO a → H a ≠ none
  reps : ∃ F : List Addr, Reps T (fun a => B.G a ∨ a ∈ hs ++ F) (vw B.Z H) l F ∧ (hs ++ F).Nodup ∧ ∀ a ∈ hs ++ F, ¬ B.G a ∧ (B.IO a ∨ B.H0 a = none) ∧ ¬ B.Z a ∧ H a ≠ none
abbrev Sat (T : Tab) (B : Base) (H : Hp) (l : List It1) : Prop := SatH T B H [] l
theorem upd_keep {own : Addr → Prop} {h : Hp} {p : Addr} {o : HO} (n : h p = none) : Keep own h (upd h p o) := fun a u e _ => by
  rw [upd_ne (ne_of_none e n)]
  exact e
theorem upd_keep' {own : Addr → Prop} {h : Hp} {p : Addr} {o : HO} (n : own p) (t : ∀ xs, h p ≠ some (.tup xs)) (f : ∀ ob u, h p ≠ some (.frz ob u)) : Keep own h (upd h p o) := fun a u e k => by
  rw [upd_ne]
  · exact e
  · rintro rfl
    rcases k n with ⟨xs, z⟩ | ⟨ob, u', z⟩
    · exact t xs (z ▸ e)
    · exact f ob u' (z ▸ e)
section
variable {T : Tab} {B : Base} {H H' : Hp} {hs : List Addr} {l m : List It1} {o : O} {v : V} {x : D} {a p : Addr}
theorem SatH.perm (s : SatH T B H hs l) (q : l.Perm m) : SatH T B H hs m := by
  obtain ⟨F, r, nd, c⟩ := s.reps
  obtain ⟨G, r', qq⟩ := r.perm q
  have pm : (hs ++ F).Perm (hs ++ G) := qq.append_left hs
  refine ⟨s.lk, s.old, s.oth, s.io, G, ?_, pm.nodup_iff.mp nd, fun a ha => c a (pm.mem_iff.mpr ha)⟩
  exact Reps.keep Keep.refl (fun a z => .inl (z.imp id fun z => pm.mem_iff.mpr z)) m G (fun _ _ => rfl) r'
theorem SatH.drop1 (s : SatH T B H hs ((o, v) :: l)) : SatH T B H hs l := by
  obtain ⟨F, ⟨F1, F2, rfl, r1, r2⟩, nd, c⟩ := s.reps
  have sub : ∀ a, a ∈ hs ++ F2 → a ∈ hs ++ (F1 ++ F2) := fun a ha => by
    rcases List.mem_append.mp ha with z | z
    · exact List.mem_append_left _ z
    · exact List.mem_append_right _ (List.mem_append_right _ z)
  refine ⟨s.lk, s.old, s.oth, s.io, F2, Reps.keep Keep.refl (fun a z => .inl (z.imp id (sub a))) l F2 (fun _ _ => rfl) r2, ?_, fun a ha => c a (sub a ha)⟩
  exact nd.sublist (List.Sublist.append_left (List.sublist_append_right F1 F2) hs)
theorem SatH.dropL (s : SatH T B H hs (m ++ l)) : SatH T B H hs l := by
  induction m with
  | nil => exact s
  | cons p r ih => exact ih (SatH.drop1 (o := p.1) (v := p.2) s)
theorem SatH.dropR (s : SatH T B H hs (l ++ m)) : SatH T B H hs l := SatH.dropL (m := m) (s.perm List.perm_append_comm)
theorem SatH.freeze (s : SatH T B H hs ((o, v) :: l)) : SatH T B H hs ((.d o.frz, v) :: l) := by
  obtain ⟨F, ⟨F1, F2, rfl, r1, r2⟩, nd, c⟩ := s.reps
  have sub : ∀ a, a ∈ hs ++ F2 → a ∈ hs ++ (F1 ++ F2) := fun a ha => by
    rcases List.mem_append.mp ha with z | z
    · exact List.mem_append_left _ z
    · exact List.mem_append_right _ (List.mem_append_right _ z)
  have sm : ∀ a, (B.G a ∨ a ∈ hs ++ F2) → (B.G a ∨ a ∈ hs ++ (F1 ++ F2)) ∨ vw B.Z H a = none := fun a z => .inl (z.imp id (sub a))
  refine ⟨s.lk, s.old, s.oth, s.io, F2, ⟨[], F2, rfl, ⟨rfl, ?_⟩, Reps.keep Keep.refl sm l F2 (fun _ _ => rfl) r2⟩, ?_, fun a ha => c a (sub a ha)⟩
  · refine Or.freeze sm o v F1 (fun a ha z => ?_) r1
    rcases z with z | z
    · exact (c a (List.mem_append_right _ (List.mem_append_left _ ha))).1 z
    · have nd' : (F1 ++ (hs ++ F2)).Nodup := by
        refine (List.Perm.nodup_iff ?_).mp nd
        rw [← List.append_assoc, ← List.append_assoc]
        exact List.perm_append_comm.append_right F2
      exact (List.nodup_append.mp nd').2.2 a ha a z rfl
  · exact nd.sublist (List.Sublist.append_left (List.sublist_append_right F1 F2) hs)
theorem SatH.dup (s : SatH T B H hs ((.d x, v) :: l)) : SatH T B H hs ((.d x, v) :: (.d x, v) :: l) := by
  obtain ⟨F, ⟨F1, F2, rfl, r1, r2⟩, nd, c⟩ := s.reps
  obtain ⟨e, r1⟩ := r1
  have e : F1 = [] := e
  subst e
  exact ⟨s.lk, s.old, s.oth, s.io, F2, ⟨[], F2, rfl, ⟨rfl, r1⟩, [], F2, rfl, ⟨rfl, r1⟩, r2⟩, nd, c⟩
/-- a thing that needs no heap -/
theorem SatH.lit (s : SatH T B H hs l) (h : ∀ own h, Dr T own h x v) : SatH T B H hs ((.d x, v) :: l) := by
  obtain ⟨F, r, nd, c⟩ := s.reps
  exact ⟨s.lk, s.old, s.oth, s.io, F, ⟨[], F, rfl, ⟨rfl, h _ _⟩, r⟩, nd, c⟩
theorem SatH.read (s : SatH T B H hs ((o, v) :: l)) : Dr T (fun _ => False) (vw B.Z H) o.frz v := by
  obtain ⟨F, ⟨F1, F2, rfl, r1, r2⟩, nd, c⟩ := s.reps
  exact Or.read o v F1 r1
theorem SatH.notG (s : SatH T B H hs l) (n : H p = none) : ¬ B.G p := fun z => by
  obtain ⟨h1, h2⟩ := s.oth p z
  cases e : B.H0 p with
  | none => exact h2 e
  | some o =>
    have := s.old p o e h1
    rw [vw_none.mpr n] at this
    cases this
theorem SatH.notZ (s : SatH T B H hs l) (n : H p = none) : ¬ B.Z p := fun z => by
  obtain ⟨u, e, _⟩ := s.lk p z
  rw [n] at e
  cases e
theorem SatH.new0 (s : SatH T B H hs l) (n : H p = none) : B.H0 p = none := by
  cases e : B.H0 p with
  | none => rfl
  | some o =>
    have := s.old p o e fun z => s.io p z n
    rw [vw_none.mpr n] at this
    cases this
/-- a new object; its address is held -/
theorem SatH.alloc (s : SatH T B H hs l) {ob : HO} (n : H p = none) : SatH T B (upd H p ob) (p :: hs) l := by
  obtain ⟨F, r, nd, c⟩ := s.reps
  have np : p ∉ hs ++ F := fun z => (c p z).2.2.2 n
  have nz := s.notZ n
  refine ⟨fun a ha => ?_, fun a o e hi => ?_, s.oth, fun a ha => ?_, F, ?_, List.nodup_cons.mpr ⟨np, nd⟩, fun a ha => ?_⟩
  · obtain ⟨u, e, mu⟩ := s.lk a ha
    exact ⟨u, by rw [upd_ne (ne_of_none e n)]; exact e, mu⟩
  · rw [vw_upd nz, upd_ne]
    · exact s.old a o e hi
    · rintro rfl
      have := s.old a o e hi
      rw [vw_none.mpr n] at this
      cases this
  · by_cases e : a = p
    · subst e; rw [upd_same]; simp
    · rw [upd_ne e]; exact s.io a ha
  · rw [vw_upd nz]
    refine Reps.keep (upd_keep (vw_none.mpr n)) (fun a z => ?_) l F (fun a ha => upd_ne fun e => np (e ▸ List.mem_append_right _ ha)) r
    rcases z with z | z
    · exact .inl (.inl z)
    · rcases List.mem_cons.mp z with e | z
      · exact .inr (e ▸ vw_none.mpr n)
      · exact .inl (.inr z)
  · rcases List.mem_cons.mp ha with e | ha
    · subst e
      exact ⟨s.notG n, .inr (s.new0 n), nz, by rw [upd_same]; simp⟩
    · obtain ⟨c1, c2, c3, c4⟩ := c a ha
      exact ⟨c1, c2, c3, by rw [upd_ne (show a ≠ p from fun e => c4 (by rw [e]; exact n))]; exact c4⟩
/-- what stands at a held address is changed -/
theorem SatH.write (s : SatH T B H (p :: hs) l) {ob : HO} (t : ∀ xs, H p ≠ some (.tup xs)) (f : ∀ o u, H p ≠ some (.frz o u)) : SatH T B (upd H p ob) (p :: hs) l := by
  obtain ⟨F, r, nd, c⟩ := s.reps
  obtain ⟨c1, c2, nz, c4⟩ := c p (List.mem_cons_self)
  have np : p ∉ hs ++ F := (List.nodup_cons.mp nd).1
  refine ⟨fun a ha => ?_, fun a o e hi => ?_, s.oth, fun a ha => ?_, F, ?_, nd, fun a ha => ?_⟩
  · obtain ⟨u, e, mu⟩ := s.lk a ha
    exact ⟨u, by rw [upd_ne (show a ≠ p from fun z => nz (by rw [← z]; exact ha))]; exact e, mu⟩
  · rw [vw_upd nz, upd_ne]
    · exact s.old a o e hi
    · rintro rfl
      rcases c2 with z | z
      · exact hi z
      · rw [z] at e; cases e
  · by_cases e : a = p
    · subst e; rw [upd_same]; simp
    · rw [upd_ne e]; exact s.io a ha
  · rw [vw_upd nz]
    exact Reps.keep (upd_keep' (.inr List.mem_cons_self) (by rw [vw_free nz]; exact t) (by rw [vw_free nz]; exact f)) (fun a z => .inl z) l F (fun a ha => upd_ne fun e => np (e ▸ List.mem_append_right _ ha)) r
  · by_cases e : a = p
    · subst e
      exact ⟨c1, c2, nz, by rw [upd_same]; simp⟩
    · obtain ⟨d1, d2, d3, d4⟩ := c a ha
      exact ⟨d1, d2, d3, by rw [upd_ne e]; exact d4⟩
/-- a held address is let go -/
theorem SatH.letgo (s : SatH T B H (p :: hs) l) : SatH T B H hs l := by
  obtain ⟨F, r, nd, c⟩ := s.reps
  exact ⟨s.lk, s.old, s.oth, s.io, F, Reps.keep Keep.refl (fun a z => .inl (z.imp id fun z => List.mem_cons_of_mem _ z)) l F (fun _ _ => rfl) r, (List.nodup_cons.mp nd).2, fun a ha => c a (List.mem_cons_of_mem _ ha)⟩
/-! ### lists -/
theorem SatH.openL {os : List O} (s : SatH T B H hs ((.lst os, v) :: l)) : ∃ a vs, v = .ref a ∧ H a = some (.lst vs) ∧ os.length = vs.length ∧ SatH T B H (a :: hs) (os.zip vs ++ l) := by
  obtain ⟨F, ⟨F1, F2, rfl, r1, r2⟩, nd, c⟩ := s.reps
  obtain ⟨a, vs, G, e1, rfl, e2, e3⟩ := r1
  obtain ⟨e4, el⟩ := Reps.ofL e3
  have pm : (hs ++ (a :: G ++ F2)).Perm (a :: hs ++ (G ++ F2)) := by
    have : (hs ++ (a :: (G ++ F2))).Perm (a :: (hs ++ (G ++ F2))) := List.perm_middle
    simpa using this
  have nz : ¬ B.Z a := (c a (pm.mem_iff.mpr List.mem_cons_self)).2.2.1
  refine ⟨a, vs, e1, (vw_free nz).symm.trans e2, el, s.lk, s.old, s.oth, s.io, G ++ F2, ?_, pm.nodup_iff.mp nd, fun b hb => c b (pm.mem_iff.mpr hb)⟩
  exact Reps.keep Keep.refl (fun b z => .inl (z.imp id fun z => pm.mem_iff.mpr z)) _ _ (fun _ _ => rfl) (Reps.append e4 r2)
theorem SatH.closeL {os : List O} {vs : List V} (s : SatH T B H (a :: hs) (os.zip vs ++ l)) (e : H a = some (.lst vs)) (hl : os.length = vs.length) : SatH T B H hs ((.lst os, .ref a) :: l) := by
  obtain ⟨F, r, nd, c⟩ := s.reps
  obtain ⟨G, F2, rfl, r1, r2⟩ := Reps.split r
  have pm : (hs ++ (a :: G ++ F2)).Perm (a :: hs ++ (G ++ F2)) := by
    have : (hs ++ (a :: (G ++ F2))).Perm (a :: (hs ++ (G ++ F2))) := List.perm_middle
    simpa using this
  have nz : ¬ B.Z a := (c a List.mem_cons_self).2.2.1
  have k : ∀ b, (B.G b ∨ b ∈ hs ++ (a :: G ++ F2)) → (B.G b ∨ b ∈ a :: hs ++ (G ++ F2)) ∨ vw B.Z H b = none := fun b z => .inl (z.imp id fun z => pm.mem_iff.mp z)
  refine ⟨s.lk, s.old, s.oth, s.io, a :: G ++ F2, ⟨a :: G, F2, rfl, ⟨a, vs, G, rfl, rfl, by rw [vw_free nz]; exact e, ?_⟩, Reps.keep Keep.refl k _ _ (fun _ _ => rfl) r2⟩, pm.nodup_iff.mpr nd, fun b hb => c b (pm.mem_iff.mp hb)⟩
  exact Or.keepL Keep.refl k _ _ _ (fun _ _ => rfl) (Reps.toL hl r1)
theorem rd_vw (s : SatH T B H hs l) {u : HO} (nf : ∀ o w, u ≠ .frz o w) (e : Rd (vw B.Z H) a u) : Rd H a u := by
  rcases e with e | ⟨o, e⟩
  · rcases vw_some e with e | ⟨_, o, e⟩
    · exact .inl e
    · exact .inr ⟨o, e⟩
  · rcases vw_some e with e | ⟨z, o', e⟩
    · exact .inr ⟨o, e⟩
    · obtain ⟨u2, e2, mu⟩ := s.lk a z
      rw [e] at e2
      cases e2
      exact mu.elim
theorem tup_vw (s : SatH T B H hs l) {vs : List V} (e : vw B.Z H a = some (.tup vs)) : H a = some (.tup vs) := by
  rcases vw_some e with e | ⟨z, o, e⟩
  · exact e
  · obtain ⟨u2, e2, mu⟩ := s.lk a z
    rw [e] at e2
    cases e2
    exact mu.elim
theorem tupAt_vw (s : SatH T B H hs l) {n : Nat} {vs : List V} (e : TupAt T.K (vw B.Z H) n a vs) : TupAt T.K H n a vs := e.imp (tup_vw s) id
theorem sqT_vw (s : SatH T B H hs l) {n : Nat} {vs : List V} (e : TupAt T.K (vw B.Z H) n a vs) : SqT T.K H a vs := (tupAt_vw s e).sq
/-- what stands for a list, a tuple, a dict, an instance -/
theorem Dr.lstV {own : Addr → Prop} {h : Hp} {xs : List D} (e : Dr T own h (.lst xs) v) : ∃ a vs, v = .ref a ∧ ((¬ own a ∧ Rd h a (.lst vs)) ∨ KL T.K a vs) ∧ DrL T own h xs vs := e
theorem DrL.len {own : Addr → Prop} {h : Hp} : ∀ {xs : List D} {vs : List V}, DrL T own h xs vs → xs.length = vs.length
  | [], vs, e => by
    have e : vs = [] := e
    subst e; rfl
  | x :: xs, vs, e => by
    obtain ⟨v, r, rfl, _, e⟩ := e
    simp [DrL.len e]
theorem DrL.reps {own : Addr → Prop} {h : Hp} : ∀ {xs : List D} {vs : List V}, DrL T own h xs vs → Reps T own h ((xs.map O.d).zip vs) []
  | [], vs, e => by
    have e : vs = [] := e
    subst e; rfl
  | x :: xs, vs, e => by
    obtain ⟨v, r, rfl, e1, e2⟩ := e
    exact ⟨[], [], rfl, ⟨rfl, e1⟩, DrL.reps e2⟩
/-- frozen things beside the others -/
theorem SatH.more (s : SatH T B H hs l) {xs : List D} {vs : List V} (h : ∀ F : List Addr, (∀ a ∈ hs ++ F, H a ≠ none) → Reps T (fun a => B.G a ∨ a ∈ hs ++ F) (vw B.Z H) l F → DrL T (fun a => B.G a ∨ a ∈ hs ++ F) (vw B.Z H) xs vs) : SatH T B H hs ((xs.map O.d).zip vs ++ l) := by
  obtain ⟨F, r, nd, c⟩ := s.reps
  exact ⟨s.lk, s.old, s.oth, s.io, F, by simpa using Reps.append (DrL.reps (h F (fun a ha => (c a ha).2.2.2) r)) r, nd, c⟩
theorem SatH.lstKids {xs : List D} (s : SatH T B H hs ((.d (.lst xs), v) :: l)) : ∃ a vs, v = .ref a ∧ SqL T.K H a vs ∧ xs.length = vs.length ∧ SatH T B H hs ((xs.map O.d).zip vs ++ (.d (.lst xs), v) :: l) := by
  obtain ⟨F, ⟨F1, F2, rfl, r1, r2⟩, nd, c⟩ := id s.reps
  obtain ⟨e, a, vs, e1, e2, e3⟩ := r1
  have e : F1 = [] := e
  subst e
  refine ⟨a, vs, e1, ?_, e3.len, s.lk, s.old, s.oth, s.io, F2, ?_, nd, c⟩
  · rcases e2 with ⟨_, e2⟩ | e2
    · exact .inl (rd_vw s (fun _ _ z => nomatch z) e2)
    · exact .inr e2
  · exact Reps.append (F := []) (DrL.reps e3) ⟨[], F2, rfl, ⟨rfl, a, vs, e1, e2, e3⟩, r2⟩
theorem SatH.tupKids {xs : List D} (s : SatH T B H hs ((.d (.tup xs), v) :: l)) : ∃ a vs, v = .ref a ∧ SqT T.K H a vs ∧ xs.length = vs.length ∧ SatH T B H hs ((xs.map O.d).zip vs ++ (.d (.tup xs), v) :: l) := by
  obtain ⟨F, ⟨F1, F2, rfl, r1, r2⟩, nd, c⟩ := id s.reps
  obtain ⟨e, a, vs, e1, e2, e3⟩ := r1
  have e : F1 = [] := e
  subst e
  exact ⟨a, vs, e1, sqT_vw s e2, e3.len, s.lk, s.old, s.oth, s.io, F2, Reps.append (F := []) (DrL.reps e3) ⟨[], F2, rfl, ⟨rfl, a, vs, e1, e2, e3⟩, r2⟩, nd, c⟩
/-! ### tuples -/
theorem SatH.openT {os : List O} (s : SatH T B H hs ((.tup os, v) :: l)) : ∃ a vs, v = .ref a ∧ H a = some (.tup vs) ∧ os.length = vs.length ∧ SatH T B H hs (os.zip vs ++ l) := by
  obtain ⟨F, ⟨F1, F2, rfl, r1, r2⟩, nd, c⟩ := s.reps
  obtain ⟨a, vs, e1, e2, e3⟩ := r1
  obtain ⟨e4, el⟩ := Reps.ofL e3
  exact ⟨a, vs, e1, tup_vw s e2, el, s.lk, s.old, s.oth, s.io, F1 ++ F2, Reps.append e4 r2, nd, c⟩
theorem SatH.closeT {os : List O} {vs : List V} (s : SatH T B H hs (os.zip vs ++ l)) (e : H a = some (.tup vs)) (hl : os.length = vs.length) : SatH T B H hs ((.tup os, .ref a) :: l) := by
  obtain ⟨F, r, nd, c⟩ := s.reps
  obtain ⟨G, F2, rfl, r1, r2⟩ := Reps.split r
  have e' : vw B.Z H a = some (.tup vs) := by
    rw [vw_free]
    · exact e
    · intro z
      obtain ⟨u2, e2, mu⟩ := s.lk a z
      rw [e] at e2
      cases e2
  exact ⟨s.lk, s.old, s.oth, s.io, G ++ F2, ⟨G, F2, rfl, ⟨a, vs, rfl, e', Reps.toL hl r1⟩, r2⟩, nd, c⟩
theorem reps_d {own : Addr → Prop} {h : Hp} : ∀ {xs : List D} {vs : List V} {F : List Addr}, xs.length = vs.length → Reps T own h ((xs.map O.d).zip vs) F → F = [] ∧ DrL T own h xs vs
  | [], [], F, _, e => ⟨e, rfl⟩
  | [], _ :: _, F, hl, e => by simp at hl
  | _ :: _, [], F, hl, e => by simp at hl
  | x :: xs, v :: vs, F, hl, e => by
    obtain ⟨F1, F2, rfl, ⟨q1, e1⟩, e2⟩ := e
    have q1 : F1 = [] := q1
    subst q1
    obtain ⟨rfl, e3⟩ := reps_d (by simpa using hl) e2
    exact ⟨rfl, v, vs, rfl, e1, e3⟩
theorem SatH.closeTd {xs : List D} {vs : List V} (s : SatH T B H hs ((xs.map O.d).zip vs ++ l)) (e : H a = some (.tup vs)) (hl : xs.length = vs.length) : SatH T B H hs ((.d (.tup xs), .ref a) :: l) := by
  have s' := (s.closeT e (by simpa using hl)).freeze
  have q : (O.tup (xs.map O.d)).frz = .tup xs := by
    rw [O.frz, frzL_map, List.map_map]
    congr 1
    exact List.map_id xs
  rw [q] at s'
  exact s'
theorem frz_lst_d (xs : List D) : (O.lst (xs.map O.d)).frz = .lst xs := by
  rw [O.frz, frzL_map, List.map_map]
  congr 1
  exact List.map_id xs
/-! ### a call: the things args go in, the things res come back, l stays -/
theorem Or.mut {own : Addr → Prop} {h : Hp} : ∀ (x : O) (v : V) (F : List Addr), Or T own h x v F → ∀ a ∈ F, ∃ o, h a = some o ∧ Mut (some o) := by
  intro x
  apply O.rec (motive_1 := fun x => ∀ (v : V) (F : List Addr), Or T own h x v F → ∀ a ∈ F, ∃ o, h a = some o ∧ Mut (some o)) (motive_2 := fun xs => ∀ (vs : List V) (F : List Addr), OrL T own h xs vs F → ∀ a ∈ F, ∃ o, h a = some o ∧ Mut (some o))
  · intro x v F e a ha
    obtain ⟨e, _⟩ := e
    have e : F = [] := e
    subst e; cases ha
  · intro xs ih v F e
    obtain ⟨a, vs, _, _, e⟩ := e
    exact ih vs F e
  · intro xs ih v F e b hb
    obtain ⟨a, vs, G, _, rfl, e1, e⟩ := e
    rcases List.mem_cons.mp hb with rfl | hb
    · exact ⟨_, e1, trivial⟩
    · exact ih vs G e b hb
  · intro ks xs ih v F e b hb
    obtain ⟨a, vs, G, _, rfl, e1, e⟩ := e
    rcases List.mem_cons.mp hb with rfl | hb
    · rcases e1 with ⟨js, _, e1, _⟩ | ⟨js, _, e1, _⟩
      · exact ⟨_, e1, trivial⟩
      · exact ⟨_, e1, trivial⟩
    · exact ih vs G e b hb
  · intro C ns xs ih v F e b hb
    obtain ⟨a, dx, vs, G, _, rfl, e1, _, e⟩ := e
    rcases List.mem_cons.mp hb with rfl | hb
    · exact ⟨_, e1, trivial⟩
    · exact ih vs G e b hb
  · intro vs F e a ha
    obtain ⟨_, e⟩ := e
    subst e; cases ha
  · intro x xs ih1 ih2 vs F e a ha
    obtain ⟨v, r, F1, F2, rfl, rfl, e1, e2⟩ := e
    rcases List.mem_append.mp ha with ha | ha
    · exact ih1 v F1 e1 a ha
    · exact ih2 r F2 e2 a ha
theorem Reps.mut {own : Addr → Prop} {h : Hp} : ∀ {l : List It1} {F : List Addr}, Reps T own h l F → ∀ a ∈ F, ∃ o, h a = some o ∧ Mut (some o)
  | [], F, e, a, ha => by
    have e : F = [] := e
    subst e; cases ha
  | p :: r, F, e, a, ha => by
    obtain ⟨F1, F2, rfl, e1, e2⟩ := e
    rcases List.mem_append.mp ha with ha | ha
    · exact Or.mut _ _ _ e1 a ha
    · exact Reps.mut e2 a ha
theorem Sat.call {args : List It1} (s : Sat T B H (args ++ l)) : ∃ (B' : Base) (Fl : List Addr) (own : Addr → Prop), B'.Z = B.Z ∧ B'.pr = B.pr ∧ Reps T own (vw B.Z H) l Fl ∧ Sat T B' H args ∧ ∀ H' res, Sat T B' H' res → Sat T B H' (res ++ l) ∧ ∀ a ∈ Fl, vw B.Z H' a = vw B.Z H a := by
  obtain ⟨F, r, nd, c⟩ := s.reps
  obtain ⟨Fa, Fl, rfl, ra, rl⟩ := Reps.split r
  simp only [List.nil_append] at nd c r ra rl
  have ndl := List.nodup_append.mp nd
  refine ⟨⟨fun a => B.G a ∨ a ∈ Fl, B.Z, vw B.Z H, fun a => a ∈ Fa, B.pr, B.zo⟩, Fl, _, rfl, rfl, rl, ⟨s.lk, fun a o e _ => e, fun a ha => ?_, fun a ha => (c a (List.mem_append_left _ ha)).2.2.2, Fa, ?_, ndl.1, fun a ha => ?_⟩, fun H' res s' => ?_⟩
  · rcases ha with ha | ha
    · refine ⟨fun z => (c a (List.mem_append_left _ z)).1 ha, ?_⟩
      obtain ⟨h1, h2⟩ := s.oth a ha
      cases e : B.H0 a with
      | none => exact (h2 e).elim
      | some o => exact fun z => (by have q := s.old a o e h1; rw [show vw B.Z H a = none from z] at q; cases q)
    · refine ⟨fun z => ndl.2.2 a z a ha rfl, fun z => ?_⟩
      exact (c a (List.mem_append_right _ ha)).2.2.2 (vw_none.mp z)
  · refine Reps.keep Keep.refl (fun a z => .inl ?_) args Fa (fun _ _ => rfl) ra
    simp only [List.nil_append] at z
    rcases z with (z | z) | z
    · exact .inl z
    · exact .inr (List.mem_append_right _ z)
    · exact .inr (List.mem_append_left _ z)
  · simp only [List.nil_append] at ha
    obtain ⟨c1, c2, c3, c4⟩ := c a (List.mem_append_left _ ha)
    exact ⟨fun z => z.elim c1 fun z => ndl.2.2 a ha a z rfl, .inl ha, c3, c4⟩
  · obtain ⟨F', r', nd', c'⟩ := s'.reps
    simp only [List.nil_append] at nd' c' r'
    have keepFl : ∀ a ∈ Fl, vw B.Z H' a = vw B.Z H a := fun a ha => by
      cases e : vw B.Z H a with
      | none => exact ((c a (List.mem_append_right _ ha)).2.2.2 (vw_none.mp e)).elim
      | some o => exact s'.old a o e fun z => ndl.2.2 a z a ha rfl
    refine ⟨⟨s'.lk, fun a o e hi => s'.old a o (s.old a o e hi) fun z => ?_, s.oth, fun a ha => ?_, F' ++ Fl, ?_, ?_, fun a ha => ?_⟩, keepFl⟩
    · obtain ⟨_, c2, _⟩ := c a (List.mem_append_left _ z)
      rcases c2 with c2 | c2
      · exact hi c2
      · rw [e] at c2; cases c2
    · by_cases z : a ∈ Fa
      · exact s'.io a z
      · cases e : vw B.Z H a with
        | none => exact (s.io a ha (vw_none.mp e)).elim
        | some o =>
          intro q
          have := s'.old a o e z
          rw [vw_none.mpr q] at this
          cases this
    · refine Reps.append (Reps.keep Keep.refl (fun a z => .inl ?_) res F' (fun _ _ => rfl) r') (Reps.keep (fun a o e k => ?_) (fun a z => ?_) l Fl keepFl rl)
      · simp only [List.nil_append] at z
        rcases z with z | z
        · exact .inl (.inl z)
        · rcases List.mem_append.mp z with z | z
          · exact .inr z
          · exact .inl (.inr z)
      · refine s'.old a o e fun z => ?_
        obtain ⟨o', e', mu⟩ := Reps.mut ra a z
        rw [e] at e'
        cases e'
        rcases k (.inr (List.mem_append_left _ z)) with ⟨xs, rfl⟩ | ⟨ob, u, rfl⟩
        · exact mu
        · exact mu
      · simp only [List.nil_append] at z
        rcases z with z | z
        · exact .inl (.inl z)
        · rcases List.mem_append.mp z with z | z
          · rcases (c' a z).2.1 with q | q
            · exact .inl (.inr (List.mem_append_left _ q))
            · exact .inr q
          · exact .inl (.inr (List.mem_append_right _ z))
    · show (F' ++ Fl).Nodup
      refine List.nodup_append.mpr ⟨nd', ndl.2.1, fun a ha b hb e => ?_⟩
      subst e
      exact (c' a ha).1 (.inr hb)
    · simp only [List.nil_append] at ha
      rcases List.mem_append.mp ha with ha | ha
      · obtain ⟨d1, d2, d3, d4⟩ := c' a ha
        refine ⟨fun z => d1 (.inl z), ?_, d3, d4⟩
        rcases d2 with d2 | d2
        · exact (c a (List.mem_append_left _ d2)).2.1
        · exact .inr (s.new0 (vw_none.mp d2))
      · obtain ⟨c1, c2, c3, c4⟩ := c a (List.mem_append_right _ ha)
        refine ⟨c1, c2, c3, fun z => ?_⟩
        have := keepFl a ha
        rw [vw_none.mpr z] at this
        exact c4 (vw_none.mp this.symm)
end
end PV
/-! PV3: the small language and what it means over plain data -/
namespace PV
open PySem L2 PyProof.Rows
/-! ### data: == , order, depth -/
mutual
/-- nothing but None, bools, ints, texts, lists, tuples, at most n deep -/
def D.okd : Nat → D → Bool
  | _, .non => true
  | _, .bl _ => true
  | _, .int _ => true
  | _, .str _ => true
  | 0, _ => false
  | n + 1, .tup xs => D.okdL n xs
  | n + 1, .lst xs => D.okdL n xs
  | _ + 1, .dic _ _ => false
  | _ + 1, .obj _ _ _ => false
  | _ + 1, .exc _ _ => false
def D.okdL : Nat → List D → Bool
  | _, [] => true
  | n, x :: xs => D.okd n x && D.okdL n xs
end
mutual
def D.toP : D → PyData
  | .non => .none
  | .bl b => .bool b
  | .int i => .int i
  | .str x => .str x
  | .tup xs => .tuple (D.toPL xs)
  | .lst xs => .list (D.toPL xs)
  | .dic _ _ => .none
  | .obj _ _ _ => .none
  | .exc _ _ => .none
def D.toPL : List D → List PyData
  | [] => []
  | x :: xs => D.toP x :: D.toPL xs
end
mutual
/-- == of such data -/
def D.eqd : D → D → Bool
  | .non, .non => true
  | .bl a, .bl b => a == b
  | .bl a, .int j => (if a then 1 else 0) == j
  | .int i, .bl b => i == (if b then 1 else 0)
  | .int i, .int j => i == j
  | .str x, .str y => x == y
  | .tup xs, .tup ys => D.eqdL xs ys
  | .lst xs, .lst ys => D.eqdL xs ys
  | _, _ => false
def D.eqdL : List D → List D → Bool
  | [], [] => true
  | x :: xs, y :: ys => D.eqd x y && D.eqdL xs ys
  | _, _ => false
end
/-! ### syntax -/
inductive Bi | add | sub | mul | fdiv | mod | pow
inductive Cm | eq | ne | lt | le | gt | ge | is | isnot | isin | notin
inductive Un | neg
/-- built-in functions, by the name and the number of arguments -/
inductive Fn | len | list | tuple | sorted | dict | abs | int | str | bool | sum | sum2 | min1 | max1 | min2 | max2 | any | all | repr | lenset
deriving DecidableEq
/-- classes that isinstance asks for -/
inductive Ty1 | bool | int | str | list | tuple | dict | cls (C : Nat)
/-- methods that only read -/
inductive Mt | index | count | get1 | get2 | split | join | copy
/-- methods that change their object -/
inductive Mu | append | extend | pop | popAt | insert | clear | setdefault | update | reverse
inductive Ck | lst | set
mutual
inductive SE where
  | var (i : Nat)
  | mv (i : Nat)
  | lit (d : D)
  | glo (x : Str) (d : D)
  | tup (es : List SE)
  | lst (es : List SE)
  | dct (kvs : List SE)
  | bi (k : Bi) (a b : SE)
  | un (k : Un) (a : SE)
  | cm (k : Cm) (a b : SE)
  | cm2 (k l : Cm) (a b c : SE)
  | band (es : List SE)
  | bor (es : List SE)
  | bnot (a : SE)
  | ite (c a b : SE)
  | idx (a b : SE)
  | slc (a lo hi : SE)
  | rev (a : SE)
  | fld (C : Nat) (a : SE) (f : Str)
  | prop (C : Nat) (nm : Str) (f : Nat) (a : SE)
  | fn (k : Fn) (es : List SE)
  | isa (cs : List Nat) (ts : List Ty1) (a : SE)
  | mt (k : Mt) (a : SE) (es : List SE)
  | mu (k : Mu) (i : Nat) (path : List SE) (es : List SE)
  | call (f : Nat) (es : List SE)
  | callp (f : Nat) (es : List SE) (g : List (Nat ⊕ D))
  | meth (C : Nat) (nm : Str) (f : Nat) (a : SE) (es : List SE) (g : List (Nat ⊕ D))
  | make (C : Nat) (f : Nat) (es : List SE) (g : List (Nat ⊕ D))
  | dlen (C f : Nat) (a : SE)
  | din (neg : Bool) (C f : Nat) (x a : SE)
  | deq (neg : Bool) (C f : Nat) (a b : SE)
  | never
  | frz (a : SE)
  | pkcm (k : Cm) (i : Nat) (path : List SE) (b : SE)
  | lck (i : Nat) (a : SE)
  | comp (k : Ck) (e : SE) (own : List Nat) (t : Tg) (it : IE) (ifs : List SE)
  | comp2 (e : SE) (own : List Nat) (t : Tg) (it : IE) (ifs : List SE) (t2 : Tg) (it2 : IE) (ifs2 : List SE)
  | dcomp (k v : SE) (own : List Nat) (t : Tg) (it : IE) (ifs : List SE)
inductive IE where
  | of (e : SE)
  | range (es : List SE)
  | enum (e : SE)
  | zip (a b : SE)
  | items (e : SE)
  | vals (e : SE)
  | rev (e : SE)
  | keys (i : Nat)
inductive Tg where
  | nm (i : Nat)
  | tp (ts : List Tg)
  | fl (i C : Nat) (f : Str)
end
inductive SS where
  | asg (t : Tg) (e : SE)
  | sub (i : Nat) (path : List SE) (e : SE)
  | fld (i C : Nat) (f : Str) (e : SE)
  | aug (i : Nat) (k : Bi) (e : SE)
  | augs (i : Nat) (path : List SE) (k : Bi) (e : SE)
  | exp (e : SE)
  | ret (e : SE)
  | retN
  | ite (c : SE) (a b : List SS)
  | for (t : Tg) (it : IE) (b : List SS)
  | whl (c : SE) (b : List SS)
  | rse (C : Nat) (es : List SE)
  | try (b : List SS) (e x : Nat)
  | pass | brk | cont
  | kill (l : List Nat)
  | never
  | lck (i : Nat) (s : SS)
/-! ### results -/
abbrev Env := List (Option O)
inductive Res (α : Type) where
  | ok (a : α) (ρ : Env)
  | exc (C : Nat) (p : List D) (ρ : Env)
  | bad
def Res.bind {α β : Type} (r : Res α) (f : α → Env → Res β) : Res β := match r with
  | .ok a ρ => f a ρ
  | .exc C p ρ => .exc C p ρ
  | .bad => .bad
@[simp] theorem Res.bind_ok {α β : Type} {a : α} {ρ : Env} {f : α → Env → Res β} : (Res.ok a ρ).bind f = f a ρ := rfl
@[simp] theorem Res.bind_exc {α β : Type} {C : Nat} {p : List D} {ρ : Env} {f : α → Env → Res β} : (Res.exc C p ρ : Res α).bind f = .exc C p ρ := rfl
@[simp] theorem Res.bind_bad {α β : Type} {f : α → Env → Res β} : (Res.bad : Res α).bind f = .bad := rfl
theorem Res.bind_congr {α β : Type} {r r' : Res α} {f : α → Env → Res β} (h : r = r') : r.bind f = r'.bind f := by rw [h]
/-- what may lack -/
def bnd {α β : Type} (o : Option α) (f : α → Res β) : Res β := match o with
  | some a => f a
  | none => .bad
@[simp] theorem bnd_some {α β : Type} {a : α} {f : α → Res β} : bnd (some a) f = f a := rfl
@[simp] theorem bnd_none {α β : Type} {f : α → Res β} : bnd none f = .bad := rfl
theorem bnd_congr {α β : Type} {r r' : Option α} {f : α → Res β} (h : r = r') : bnd r f = bnd r' f := by rw [h]
def Res.of {α : Type} (o : Option α) (ρ : Env) : Res α := match o with
  | some a => .ok a ρ
  | none => .bad
@[simp] theorem Res.of_some {α : Type} {a : α} {ρ : Env} : Res.of (some a) ρ = .ok a ρ := rfl
@[simp] theorem Res.of_none {α : Type} {ρ : Env} : Res.of (none : Option α) ρ = .bad := rfl
/-- a def's answer: what it gives, what has become of its arguments -/
inductive FRes where
  | ok (o : O) (ios : List O)
  | exc (C : Nat) (p : List D) (ios : List O)
  | bad
structure FSpec where
  lvl : Nat
  run : List O → FRes
abbrev Phi := Nat → FSpec
def slotE (ρ : Env) (i : Nat) : Option O := (ρ[i]?).join
@[simp] theorem slotE_nil {i : Nat} : slotE [] i = none := rfl
@[simp] theorem slotE_zero {o : Option O} {ρ : Env} : slotE (o :: ρ) 0 = o := rfl
@[simp] theorem slotE_succ {o : Option O} {ρ : Env} {i : Nat} : slotE (o :: ρ) (i + 1) = slotE ρ i := rfl
/-! ### operands -/
inductive Arg | slot (i : Nat) | val (o : O)
def fetch (a : Arg) (ρ : Env) : Res O := match a with
  | .val o => .ok o ρ
  | .slot i => bnd (slotE ρ i) fun o => .ok o (taken o i ρ)
where taken (o : O) (i : Nat) (ρ : Env) : Env := match o with
  | .d _ => ρ
  | _ => ρ.set i none
def fetchL : List Arg → Env → Res (List O)
  | [], ρ => .ok [] ρ
  | a :: as, ρ => (fetch a ρ).bind fun o ρ => (fetchL as ρ).bind fun os ρ => .ok (o :: os) ρ
def back (a : Arg) (o : O) (ρ : Env) : Env := match a with
  | .val _ => ρ
  | .slot i => ρ.set i (some o)
def backL : List Arg → List O → Env → Env
  | a :: as, o :: os, ρ => backL as os (back a o ρ)
  | _, _, ρ => ρ
/-- the things in it are no more its own -/
def O.shal : O → O
  | .d x => .d x
  | .tup xs => .tup (xs.map fun o => .d o.frz)
  | .lst xs => .lst (xs.map fun o => .d o.frz)
  | .dic ks vs => .dic ks (vs.map fun o => .d o.frz)
  | .obj C ns vs => .obj C ns (vs.map fun o => .d o.frz)
/-- an operation that reads: f of the data; sh: what it gives may hold what the operands hold -/
def opR (f : List D → Option O) (sh : Bool) (as : List Arg) (ρ : Env) : Res O :=
  (fetchL as ρ).bind fun os ρ => (Res.of (f (os.map O.frz)) ρ).bind fun r ρ => .ok r (backL as (if sh then os.map O.shal else os) ρ)
/-! ### the operations -/
def okS (x y : D) : Bool := D.okd 150 x && D.okd 150 y
def catD (x y : D) : Option O := match x, y with
  | .int i, .int j => some (.d (.int (i + j)))
  | .str i, .str j => if i.length + j.length ≤ sizeLine then some (.d (.str (i ++ j))) else none
  | .lst xs, .lst ys => if xs.length + ys.length ≤ sizeLine then some (.lst ((xs ++ ys).map .d)) else none
  | .tup xs, .tup ys => if xs.length + ys.length ≤ sizeLine then some (.d (.tup (xs ++ ys))) else none
  | _, _ => none
def biD (k : Bi) (as : List D) : Option O := match as with
  | [x, y] => match k with
    | .add => catD x y
    | .sub => match x, y with
      | .int i, .int j => some (.d (.int (i - j)))
      | _, _ => none
    | .mul => match x, y with
      | .int i, .int j => if (-(2 ^ 64) < i ∧ i < 2 ^ 64) ∨ (-(2 ^ 64) < j ∧ j < 2 ^ 64) then some (.d (.int (i * j))) else none
      | _, _ => none
    | .fdiv => match x, y with
      | .int i, .int j => if 0 < j ∧ j < 1073741824 then some (.d (.int (i / j))) else none
      | _, _ => none
    | .mod => match x, y with
      | .int i, .int j => if 0 < j then some (.d (.int (i % j))) else none
      | _, _ => none
    | .pow => match x, y with
      | .int i, .int j => if 0 ≤ j ∧ j ≤ 1000000 ∧ i.natAbs < 2 ^ 64 then some (.d (.int (i ^ j.toNat))) else none
      | _, _ => none
  | _ => none
def unD (k : Un) (as : List D) : Option O := match as with
  | [.int i] => match k with
    | .neg => some (.d (.int (-i)))
  | _ => none
/-- what is told of a key -/
def lookD (k : D) : List D → List D → Option D
  | j :: js, v :: vs => if keyOf j = keyOf k ∧ tkeyOf j = tkeyOf k then some v else lookD k js vs
  | _, _ => none
/-- all keys are of one kind: ints and texts, or tuples of these -/
def kindOk (k : D) (ks : List D) : Bool := ((keyOf k).isSome && ks.all fun j => (keyOf j).isSome) || ((tkeyOf k).isSome && ks.all fun j => (tkeyOf j).isSome)
def isStrD : D → Bool
  | .str _ => true
  | _ => false
/-- a dict among texts -/
def inDic (x : D) (ys : List D) : Option Bool := match x with
  | .dic _ _ => if ys.all isStrD then some false else none
  | _ => none
def cmpD (k : Cm) (x y : D) : Option Bool := match k with
  | .eq => if okS x y then some (D.eqd x y) else none
  | .ne => if okS x y then some (!D.eqd x y) else none
  | .lt => match x, y with
    | .int i, .int j => some (decide (i < j))
    | .str i, .str j => some (decide (i.cps.toList < j.cps.toList))
    | _, _ => none
  | .le => match x, y with
    | .int i, .int j => some (decide (i ≤ j))
    | .str i, .str j => some (!decide (j.cps.toList < i.cps.toList))
    | _, _ => none
  | .gt => match x, y with
    | .int i, .int j => some (decide (j < i))
    | .str i, .str j => some (decide (j.cps.toList < i.cps.toList))
    | _, _ => none
  | .ge => match x, y with
    | .int i, .int j => some (decide (j ≤ i))
    | .str i, .str j => some (!decide (i.cps.toList < j.cps.toList))
    | _, _ => none
  | .is => match x, y with
    | .non, .non => some true
    | _, .non => some false
    | _, _ => none
  | .isnot => match x, y with
    | .non, .non => some false
    | _, .non => some true
    | _, _ => none
  | .isin => inD x y
  | .notin => (inD x y).map (!·)
where inD (x y : D) : Option Bool := match y with
    | .lst ys => if D.okd 150 x && D.okdL 150 ys then some (ys.any fun y => D.eqd y x) else none
    | .tup ys => if D.okd 150 x && D.okdL 150 ys then some (ys.any fun y => D.eqd y x) else inDic x ys
    | .dic ks vs => if kindOk x ks then some (lookD x ks vs).isSome else none
    | .str t => match x with
      | .str s => match s.cps.toList with
        | [c] => some (decide (c ∈ t.cps.toList))
        | _ => some (!(Builtin.Str.occurrences t s 0 t.length 1).isEmpty)
      | _ => none
    | _ => none
def cmD (k : Cm) (as : List D) : Option O := match as with
  | [x, y] => (cmpD k x y).map fun b => .d (.bl b)
  | _ => none
def idxD (as : List D) : Option O := match as with
  | [.lst xs, .int i] => (atI xs i).map .d
  | [.tup xs, .int i] => (atI xs i).map .d
  | [.str x, .int i] => if x.length ≤ sizeLine then (atI x.cps.toList i).map fun c => .d (.str ⟨#[c]⟩) else none
  | [.dic ks vs, k] => if kindOk k ks then (lookD k ks vs).map .d else none
  | _ => none
def partD : D → Option (Option Int)
  | .non => some none
  | .int i => some (some i)
  | _ => none
def cutD (xs : List D) (lo hi : Option Int) : List D := (xs.drop (HT.sIx xs.length 0 lo)).take (HT.sIx xs.length xs.length hi - HT.sIx xs.length 0 lo)
def slcD (as : List D) : Option O := match as with
  | [x, l, h] => match partD l, partD h with
    | some lo, some hi => match x with
      | .lst xs => some (.lst ((cutD xs lo hi).map .d))
      | .tup xs => some (.d (.tup (cutD xs lo hi)))
      | .str z => if z.length ≤ sizeLine then some (.d (.str ⟨((z.cps.toList.drop (HT.sIx z.length 0 lo)).take (HT.sIx z.length z.length hi - HT.sIx z.length 0 lo)).toArray⟩)) else none
      | _ => none
    | _, _ => none
  | _ => none
def revD (as : List D) : Option O := match as with
  | [.lst xs] => some (.lst (xs.reverse.map .d))
  | _ => none
def fieldD (f : Str) : List Str → List D → Option D
  | n :: ns, v :: vs => if n = f then some v else fieldD f ns vs
  | _, _ => none
def fldD (C : Nat) (f : Str) (as : List D) : Option O := match as with
  | [.obj C' ns vs] => if C' = C then (fieldD f ns vs).map .d else none
  | _ => none
/-- how long it is, what is in it -/
def itemsD : D → Option (List D)
  | .lst xs => some xs
  | .tup xs => some xs
  | .dic ks _ => some ks
  | .str x => some (x.cps.toList.map fun c => .str ⟨#[c]⟩)
  | _ => none
/-- what may be walked -/
def walkD : D → Option (List D)
  | .lst xs => some xs
  | .tup xs => some xs
  | .str x => if x.length ≤ sizeLine then some (x.cps.toList.map fun c => .str ⟨#[c]⟩) else none
  | _ => none
def lstD : D → Option (List D)
  | .lst xs => some xs
  | _ => none
def truD : D → Option Bool
  | .non => some false
  | .bl b => some b
  | .int i => some (i != 0)
  | .str x => if x.length ≤ sizeLine then some ((x.length : Int) != 0) else none
  | .lst xs => some (!xs.isEmpty)
  | .tup xs => some (!xs.isEmpty)
  | .dic ks _ => if ks.all fun k => (keyOf k).isSome then some (!ks.isEmpty) else none
  | _ => none
def intsD : List D → Option (List Int)
  | [] => some []
  | .int i :: r => (intsD r).map (i :: ·)
  | _ => none
def boolsD : List D → Option (List Bool)
  | [] => some []
  | .bl b :: r => (boolsD r).map (b :: ·)
  | _ => none
def rangeL (lo : Int) (n : Nat) : List D := (List.range n).map fun (i : Nat) => .int (lo + (i : Int))
def strsD : List D → Option (List Str)
  | [] => some []
  | .str x :: r => (strsD r).map (x :: ·)
  | _ => none
def fn1 (k : Fn) (x : D) : Option O := match k with
  | .len => (match x with
    | .lst xs => some (.d (.int xs.length))
    | .tup xs => some (.d (.int xs.length))
    | .str x => if x.length ≤ sizeLine then some (.d (.int x.length)) else none
    | .dic ks _ => some (.d (.int ks.length))
    | _ => none)
  | .list => (match x with
    | .lst xs => some (.lst (xs.map .d))
    | .tup xs => some (.lst (xs.map .d))
    | .dic ks _ => if ks.all fun k => (keyOf k).isSome then some (.lst (ks.map .d)) else none
    | _ => none)
  | .tuple => (match x with
    | .lst xs => some (.d (.tup xs))
    | .tup xs => some (.d (.tup xs))
    | _ => none)
  | .abs => (match x with
    | .int i => some (.d (.int (if i < 0 then -i else i)))
    | _ => none)
  | .int => (match x with
    | .int i => some (.d (.int i))
    | .bl b => some (.d (.int (if b then 1 else 0)))
    | _ => none)
  | .lenset => (match x with
    | .lst xs => (match strsD xs with
      | some ys => if ys.length ≤ 4000 then some (.d (.int (met ys).length)) else none
      | none => none)
    | _ => none)
  | .all => (match x with
    | .lst xs => (boolsD xs).map fun bs => .d (.bl (bs.all id))
    | _ => none)
  | .any => (match x with
    | .lst xs => (boolsD xs).map fun bs => .d (.bl (bs.any id))
    | _ => none)
  | _ => none
def fn2 (k : Fn) (x y : D) : Option O := match k with
  | .min2 => (match x, y with
    | .int i, .int j => some (.d (.int (if j < i then j else i)))
    | _, _ => none)
  | .max2 => (match x, y with
    | .int i, .int j => some (.d (.int (if j > i then j else i)))
    | _, _ => none)
  | _ => none
/-- what it gives may hold what the argument holds -/
def fnSh (k : Fn) : Bool := match k with
  | .list => true
  | .tuple => true
  | .sorted => true
  | .dict => true
  | .min1 => true
  | .max1 => true
  | _ => false
def fnD (k : Fn) (as : List D) : Option O := match as with
  | [x] => fn1 k x
  | [x, y] => fn2 k x y
  | _ => none
/-- isinstance -/
def isa1 (x : D) (t : Ty1) : Bool := match t, x with
  | .bool, .bl _ => true
  | .int, .bl _ => true
  | .int, .int _ => true
  | .str, .str _ => true
  | .list, .lst _ => true
  | .tuple, .tup _ => true
  | .dict, .dic _ _ => true
  | .cls C, .obj C' _ _ => C == C'
  | _, _ => false
def isaD (cs : List Nat) (ts : List Ty1) (as : List D) : Option O := match as with
  | [.exc _ _] => none
  | [.obj C ns vs] => if C ∈ cs then some (.d (.bl (ts.any (isa1 (.obj C ns vs))))) else none
  | [x] => some (.d (.bl (ts.any (isa1 x))))
  | _ => none
def mtD (k : Mt) (as : List D) : Option O := match k, as with
  | .get2, [.dic ks vs, k, z] => if kindOk k ks then some (.d ((lookD k ks vs).getD z)) else none
  | .get1, [.dic ks vs, k] => if kindOk k ks then some (.d ((lookD k ks vs).getD .non)) else none
  | .join, [.str a, .lst xs] => match strsD xs with
    | some ys => if (ys.map (·.length)).sum + ys.length * a.length ≤ 16777216 then some (.d (.str (Txt.join a ys))) else none
    | none => none
  | .split, [.str a, .str b] => if (b.length == 0) = false ∧ a.length + 2 ≤ sizeLine then some (.lst ((Txt.split a b).map fun x => .d (.str x))) else none
  | _, _ => none
/-! ### objects that change -/
/-- what a change of its object gives: the result, the object -/
def muO (k : Mu) (o : O) (as : List O) : Option (O × O) := match k, o, as with
  | .append, .lst xs, [y] => if xs.length < sizeLine then some (.d .non, .lst (xs ++ [y])) else none
  | .extend, .lst xs, [.lst ys] => if xs.length + ys.length ≤ sizeLine then some (.d .non, .lst (xs ++ ys)) else none
  | .extend, .lst xs, [.d (.lst ys)] => if xs.length + ys.length ≤ sizeLine then some (.d .non, .lst (xs ++ ys.map .d)) else none
  | .pop, .lst xs, [] => match xs[xs.length - 1]? with
    | some y => some (y, .lst xs.dropLast)
    | none => none
  | .popAt, .lst xs, [.d (.int i)] => match ixN xs.length i with
    | some k => match xs[k]? with
      | some y => some (y, .lst (xs.eraseIdx k))
      | none => none
    | none => none
  | .clear, .lst _, [] => some (.d .non, .lst [])
  | .insert, .lst xs, [.d (.int i), y] => if xs.length < sizeLine ∧ 0 ≤ i ∧ i < 2 ^ 63 then some (.d .non, .lst (xs.take i.toNat ++ [y] ++ xs.drop i.toNat)) else none
  | .reverse, .lst xs, [] => some (.d .non, .lst xs.reverse)
  | _, _, _ => none
/-- where a key stands -/
def posD (k : D) : List D → Option Nat
  | [] => none
  | j :: js => if keyOf j = keyOf k ∧ tkeyOf j = tkeyOf k then some 0 else (posD k js).map (· + 1)
/-- where a field stands -/
def posF (f : Str) : List Str → Option Nat
  | [] => none
  | n :: ns => if n = f then some 0 else (posF f ns).map (· + 1)
/-- one step down: the part, and the whole with another part there; a field's key is .exc C [its name] -/
def stepO (o : O) (k : D) : Option (O × (O → O)) := match o with
  | .lst xs => match k with
    | .int i => match ixN xs.length i with
      | some j => match xs[j]? with
        | some y => some (y, fun z => .lst (xs.set j z))
        | none => none
      | none => none
    | _ => none
  | .dic ks vs => if kindOk k ks then (match posD k ks with
      | some j => match vs[j]? with
        | some y => some (y, fun z => .dic ks (vs.set j z))
        | none => none
      | none => none) else none
  | .obj C ns vs => match k with
    | .exc C' [.str f] => if C' = C then (match posF f ns with
      | some j => match vs[j]? with
        | some y => some (y, fun z => .obj C ns (vs.set j z))
        | none => none
      | none => none) else none
    | _ => none
  | _ => none
def scalD : D → Bool
  | .non => true
  | .bl _ => true
  | .int _ => true
  | .str _ => true
  | _ => false
def scalO : O → Bool
  | .d x => scalD x
  | _ => false
/-- what is left of a thing of which the part at k was handed out -/
def ixBack (o : O) (k : D) (r : O) : O := if scalO r then o else (match stepO o k with
  | some (y, g) => g (.d y.frz)
  | none => o.shal)
def ixBackL (k : D) (r : O) : List O → List O
  | o :: os => ixBack o k r :: os.map O.shal
  | [] => []
/-- a part is read -/
def opX (f : List D → Option O) (kf : List D → D) (as : List Arg) (ρ : Env) : Res O :=
  (fetchL as ρ).bind fun os ρ => (Res.of (f (os.map O.frz)) ρ).bind fun r ρ => .ok r (backL as (ixBackL (kf (os.map O.frz)) r os) ρ)
def snd2 (ds : List D) : D := match ds with
  | [_, k] => k
  | _ => .non
/-- d[k] = v -/
def putD (k : D) (v : O) (ks : List D) (vs : List O) : List D × List O := match posD k ks with
  | some n => (ks, vs.set n v)
  | none => (ks ++ [k], vs ++ [v])
def setO (o : O) (k : D) (v : O) : Option O := match o with
  | .lst xs => match k with
    | .int i => (ixN xs.length i).map fun j => .lst (xs.set j v)
    | _ => none
  | .dic ks vs => if kindOk k ks && decide (ks.length < sizeLine) then some (let r := putD k v ks vs; .dic r.1 r.2) else none
  | _ => none
def pathO : List D → O → (O → Option (O × O)) → Option (O × O)
  | [], o, f => f o
  | k :: ks, o, f => match stepO o k with
    | some (y, g) => (pathO ks y f).map fun p => (p.1, g p.2)
    | none => none
def fieldO (f : Str) : List Str → List O → Option O
  | n :: ns, v :: vs => if n = f then some v else fieldO f ns vs
  | _, _ => none
def putFO (f : Str) (v : O) : List Str → List O → List Str × List O
  | n :: ns, x :: xs => if n = f then (n :: ns, v :: xs) else (let r := putFO f v ns xs; (n :: r.1, x :: r.2))
  | ns, xs => (ns ++ [f], xs ++ [v])
def boolO : O → Option Bool
  | .d (.bl b) => some b
  | _ => none
/-! ### what it means -/
def mkT (os : List O) : O := match allD os with
  | some ds => .d (.tup ds)
  | none => .tup os
where allD : List O → Option (List D)
  | [] => some []
  | .d x :: r => (allD r).map (x :: ·)
  | _ :: _ => none
def asgT : Tg → D → Env → Option Env
  | .nm i, x, ρ => some (ρ.set i (some (.d x)))
  | .tp ts, .tup xs, ρ => go ts xs ρ
  | _, _, _ => none
where go : List Tg → List D → Env → Option Env
  | [], [], ρ => some ρ
  | t :: ts, x :: xs, ρ => match asgT t x ρ with
    | some ρ' => go ts xs ρ'
    | none => none
  | _, _, _ => none
def setF (C : Nat) (f : Str) (v : O) : O → Option O
  | .obj C' ns vs => if C' = C ∧ ns.length < 1000 then some (let r := putFO f v ns vs; .obj C' r.1 r.2) else none
  | _ => none
/-- an assignment's target takes what is owned -/
def asgO : Tg → O → Env → Option Env
  | .nm i, o, ρ => some (ρ.set i (some o))
  | .tp ts, .d (.tup xs), ρ => goD ts xs ρ
  | .tp ts, .tup xs, ρ => go ts xs ρ
  | .fl i C f, o, ρ => match slotE ρ i with
    | some b => match setF C f o b with
      | some b' => some (ρ.set i (some b'))
      | none => none
    | none => none
  | _, _, _ => none
where
  go : List Tg → List O → Env → Option Env
  | [], [], ρ => some ρ
  | t :: ts, x :: xs, ρ => match asgO t x ρ with
    | some ρ' => go ts xs ρ'
    | none => none
  | _, _, _ => none
  goD : List Tg → List D → Env → Option Env
  | [], [], ρ => some ρ
  | t :: ts, x :: xs, ρ => match asgT t x ρ with
    | some ρ' => goD ts xs ρ'
    | none => none
  | _, _, _ => none
def killE : List Nat → Env → Env
  | [], ρ => ρ
  | i :: r, ρ => killE r (ρ.set i none)
/-- the items that an iterator gives -/
def zipD : List D → List D → List D
  | x :: xs, y :: ys => .tup [x, y] :: zipD xs ys
  | _, _ => []
def zip2D (x y : D) : Option (List D) := match x, y with
  | .lst xs, .lst ys => some (zipD xs ys)
  | .tup xs, .tup ys => some (zipD xs ys)
  | _, _ => none
def enumD : Nat → List D → List D
  | _, [] => []
  | n, x :: xs => .tup [.int (n : Int), x] :: enumD (n + 1) xs
/-- a comprehension's turns: f is one turn, it gives what is kept or nothing -/
def compL (f : D → Env → Res (Option O)) : List D → Env → Res (List O)
  | [], ρ => .ok [] ρ
  | x :: xs, ρ => (f x ρ).bind fun o ρ => (compL f xs ρ).bind fun os ρ => .ok (match o with
    | some y => y :: os
    | none => os) ρ
inductive Fl where
  | nx | rt (o : O) | bk | ct
/-- behind a turn of a loop -/
def Fl.turn (e : Fl) (go : Res Fl) (ρ : Env) : Res Fl := match e with
  | .nx => go
  | .ct => go
  | .bk => .ok .nx ρ
  | .rt o => .ok (.rt o) ρ
@[simp] theorem Fl.turn_nx {go : Res Fl} {ρ : Env} : Fl.nx.turn go ρ = go := rfl
@[simp] theorem Fl.turn_ct {go : Res Fl} {ρ : Env} : Fl.ct.turn go ρ = go := rfl
@[simp] theorem Fl.turn_bk {go : Res Fl} {ρ : Env} : Fl.bk.turn go ρ = .ok .nx ρ := rfl
@[simp] theorem Fl.turn_rt {o : O} {go : Res Fl} {ρ : Env} : (Fl.rt o).turn go ρ = .ok (.rt o) ρ := rfl
theorem Fl.turn_congr {e e' : Fl} {go : Res Fl} {ρ : Env} (h : e = e') : e.turn go ρ = e'.turn go ρ := by rw [h]
/-- behind a statement -/
def Fl.seq (e : Fl) (go : Env → Res Fl) (ρ : Env) : Res Fl := match e with
  | .nx => go ρ
  | e => .ok e ρ
@[simp] theorem Fl.seq_nx {go : Env → Res Fl} {ρ : Env} : Fl.nx.seq go ρ = go ρ := rfl
@[simp] theorem Fl.seq_ct {go : Env → Res Fl} {ρ : Env} : Fl.ct.seq go ρ = .ok .ct ρ := rfl
@[simp] theorem Fl.seq_bk {go : Env → Res Fl} {ρ : Env} : Fl.bk.seq go ρ = .ok .bk ρ := rfl
@[simp] theorem Fl.seq_rt {o : O} {go : Env → Res Fl} {ρ : Env} : (Fl.rt o).seq go ρ = .ok (.rt o) ρ := rfl
theorem Fl.seq_congr {e e' : Fl} {go : Env → Res Fl} {ρ : Env} (h : e = e') : e.seq go ρ = e'.seq go ρ := by rw [h]
def forL (f : D → Env → Res Fl) : List D → Env → Res Fl
  | [], ρ => .ok .nx ρ
  | x :: xs, ρ => (f x ρ).bind fun e ρ => e.turn (forL f xs ρ) ρ
/-- a while loop's turn: go on, or the end -/
def whlN (f : Env → Res (Option Fl)) : Nat → Env → Option (Res Fl)
  | 0, _ => none
  | n + 1, ρ => match f ρ with
    | .ok none ρ => whlN f n ρ
    | .ok (some e) ρ => some (.ok e ρ)
    | .exc C p ρ => some (.exc C p ρ)
    | .bad => some .bad
open Classical in
noncomputable def whlL (f : Env → Res (Option Fl)) (ρ : Env) : Res Fl :=
  if h : ∃ n r, whlN f n ρ = some r then (Classical.choose_spec h).choose else .bad
/-- a call: the arguments that were slots come back -/
def FRes.to (r : FRes) (as : List Arg) (ρ : Env) : Res O := match r with
  | .ok r ios => .ok r (backL as ios ρ)
  | .exc C p ios => .exc C p (backL as ios ρ)
  | .bad => .bad
@[simp] theorem FRes.to_ok {r : O} {ios : List O} {as : List Arg} {ρ : Env} : (FRes.ok r ios).to as ρ = .ok r (backL as ios ρ) := rfl
@[simp] theorem FRes.to_exc {C : Nat} {p : List D} {ios : List O} {as : List Arg} {ρ : Env} : (FRes.exc C p ios).to as ρ = .exc C p (backL as ios ρ) := rfl
def callR (S : FSpec) (as : List Arg) (ρ : Env) : Res O := (fetchL as ρ).bind fun os ρ => (S.run os).to as ρ
/-- arguments in the parameters' order, defaults among them -/
def arr (as : List Arg) : List (Nat ⊕ D) → Option (List Arg)
  | [] => some []
  | .inl i :: r => match as[i]?, arr as r with
    | some a, some l => some (a :: l)
    | _, _ => none
  | .inr d :: r => (arr as r).map (.val (.d d) :: ·)
/-- a made object: what __init__ has made of the empty one -/
def FRes.made (r : FRes) : FRes := match r with
  | .ok (.d .non) (o :: ios) => .ok o ios
  | .exc C p (_ :: ios) => .exc C p ios
  | _ => .bad
@[simp] theorem FRes.made_ok {o : O} {ios : List O} : (FRes.ok (.d .non) (o :: ios)).made = .ok o ios := rfl
@[simp] theorem FRes.made_exc {o : O} {C : Nat} {p : List D} {ios : List O} : (FRes.exc C p (o :: ios)).made = .exc C p ios := rfl
def makeR (S : FSpec) (as : List Arg) (ρ : Env) : Res O := (fetchL as ρ).bind fun os ρ => (S.run os).made.to (as.drop 1) ρ
def evens : List O → List O
  | k :: _ :: r => k :: evens r
  | _ => []
def odds : List O → List O
  | _ :: v :: r => v :: odds r
  | _ => []
/-- a display's dict: keys that are ints and texts, no two alike -/
def dicO (ks vs : List O) : Option O := match keysOf (ks.map O.frz) with
  | some js => if js.Nodup ∧ js.length ≤ 15 then some (.dic (ks.map O.frz) vs) else none
  | none => none
/-- an object of the class -/
def objC (C : Nat) (d : D) : Option Unit := match d with
  | .obj C' _ _ => if C' = C then some () else none
  | _ => none
/-- .. that has no field of the name -/
def objM (C : Nat) (f : Str) (d : D) : Option Unit := match d with
  | .obj C' ns _ => if C' = C ∧ f ∉ ns then some () else none
  | _ => none
/-- what may stand at the right of an own == -/
def eqTy (C : Nat) (d : D) : Option Unit := match d with
  | .obj C' _ _ => if C' = C then some () else none
  | .exc _ _ => none
  | _ => some ()
def lenO (o : O) : Option O := match o with
  | .d (.int n) => if 0 ≤ n ∧ n < 2 ^ 63 then some (.d (.int n)) else none
  | _ => none
def notO (neg : Bool) (o : O) : Option O := match o with
  | .d (.bl b) => some (.d (.bl (if neg then !b else b)))
  | _ => none
/-- no exception leaves it -/
def Res.noX {α : Type} (r : Res α) : Res α := match r with
  | .ok a ρ => .ok a ρ
  | _ => .bad
@[simp] theorem Res.noX_ok {α : Type} {a : α} {ρ : Env} : (Res.ok a ρ).noX = .ok a ρ := rfl
theorem Res.noX_congr {α : Type} {r r' : Res α} (h : r = r') : r.noX = r'.noX := by rw [h]
/-- the block's own slots as they were -/
def backE (own : List Nat) (ρ0 ρ : Env) : Env := match own with
  | [] => ρ
  | i :: r => backE r ρ0 (ρ.set i (slotE ρ0 i))
/-- whether a method of the kind is one of this thing -/
def muTy (k : Mu) (o : O) : Option Unit := match o with
  | .lst _ => match k with
    | .setdefault => none
    | .update => none
    | _ => some ()
  | _ => none
/-- the keys of a dict that is plain data -/
def keysD (o : O) : Option (List D) := match o with
  | .d (.dic ks _) => (keysOf ks).map fun _ => ks
  | _ => none
/-- what range gives -/
def rangeD (as : List O) : Option (List D) := match as with
  | [.d (.int n)] => if -(2 ^ 62) ≤ n ∧ n ≤ sizeLine then some (rangeL 0 n.toNat) else none
  | [.d (.int a), .d (.int b)] => if 0 ≤ a ∧ a ≤ sizeLine ∧ 0 ≤ b ∧ b ≤ sizeLine then some (rangeL a (b - a).toNat) else none
  | _ => none
/-- what an operand is now -/
def argO (a : Arg) (ρ : Env) : Option O := match a with
  | .val o => some o
  | .slot i => slotE ρ i
/-- an operand that may be looked at twice -/
def plainA (a : Arg) : Option Unit := match a with
  | .slot _ => some ()
  | .val (.d _) => some ()
  | _ => none
def mtTy (k : Mt) (d : D) : Option Unit := match k, d with
  | .index, .lst _ => some ()
  | .count, .lst _ => some ()
  | .get1, .dic _ _ => some ()
  | .get2, .dic _ _ => some ()
  | .split, .str _ => some ()
  | .join, .str _ => some ()
  | _, _ => none
/-- a slice's part is left out, or an int -/
def partOk (l : SE) (y : Arg) (ρ : Env) : Option Unit := match l with
  | .lit .non => some ()
  | _ => match argO y ρ with
    | some (.d (.int _)) => some ()
    | _ => none
/-- a test's outcome -/
def tst {α : Type} (b : Bool) (x y : Res α) : Res α := match b with
  | true => x
  | false => y
@[simp] theorem tst_true {α : Type} {x y : Res α} : tst true x y = x := rfl
@[simp] theorem tst_false {α : Type} {x y : Res α} : tst false x y = y := rfl
theorem tst_congr {α : Type} {b b' : Bool} {x y : Res α} (h : b = b') : tst b x y = tst b' x y := by rw [h]
section
variable (Φ : Phi)
mutual
def ev : SE → Env → Res O
  | .var i, ρ => bnd (slotE ρ i) fun o => .ok (.d o.frz) (ρ.set i (some (.d o.frz)))
  | .mv i, ρ => bnd (slotE ρ i) fun o => .ok o (ρ.set i none)
  | .lit d, ρ => .ok (.d d) ρ
  | .glo _ d, ρ => .ok (.d d) ρ
  | .tup es, ρ => (evL es ρ).bind fun os ρ => .ok (mkT os) ρ
  | .lst es, ρ => (evL es ρ).bind fun os ρ => .ok (.lst os) ρ
  | .dct kvs, ρ => (evL kvs ρ).bind fun os ρ => bnd (dicO (evens os) (odds os)) fun o => .ok o ρ
  | .bi k a b, ρ => (evA a ρ).bind fun x ρ => (evA b ρ).bind fun y ρ => opR (biD k) true [x, y] ρ
  | .un k a, ρ => (evA a ρ).bind fun x ρ => opR (unD k) false [x] ρ
  | .cm k a b, ρ => (evA a ρ).bind fun x ρ => (evA b ρ).bind fun y ρ => opR (cmD k) false [x, y] ρ
  | .cm2 k l a b c, ρ => (evA a ρ).bind fun x ρ => (evA b ρ).bind fun y ρ => bnd (plainA y) fun _ => (opR (cmD k) false [x, y] ρ).bind fun r ρ => bnd (boolO r) fun t => tst t ((evA c ρ).bind fun z ρ => opR (cmD l) false [y, z] ρ) (.ok (.d (.bl false)) ρ)
  | .band es, ρ => evAnd es ρ
  | .bor es, ρ => evOr es ρ
  | .bnot a, ρ => (evA a ρ).bind fun a ρ => (fetch a ρ).bind fun o ρ => (Res.of (truD o.frz) ρ).bind fun b ρ => .ok (.d (.bl (!b))) (back a o ρ)
  | .ite c a b, ρ => (evC c ρ).bind fun t ρ => tst t (ev a ρ) (ev b ρ)
  | .idx a b, ρ => (evA a ρ).bind fun x ρ => (evA b ρ).bind fun y ρ => opX idxD snd2 [x, y] ρ
  | .slc a l h, ρ => (evA a ρ).bind fun x ρ => (evA l ρ).bind fun y ρ => bnd (partOk l y ρ) fun _ => (evA h ρ).bind fun z ρ => bnd (partOk h z ρ) fun _ => opR slcD true [x, y, z] ρ
  | .rev a, ρ => (evA a ρ).bind fun x ρ => opR revD true [x] ρ
  | .fld C a f, ρ => (evA a ρ).bind fun x ρ => opX (fldD C f) (fun _ => .exc C [.str f]) [x] ρ
  | .frz a, ρ => (ev a ρ).bind fun o ρ => .ok (.d o.frz) ρ
  | .lck i a, ρ => bnd (slotE ρ i) fun o => bnd (keysD (.d o.frz)) fun _ => (ev a (ρ.set i (some (.d o.frz)))).noX
  | .pkcm k i path b, ρ => bnd (slotE ρ i) fun o => (evKs path (ρ.set i none)).bind fun ks ρ => bnd (pathO ks o fun o => some (o, o)) fun p => (ev b ρ).bind fun v ρ => bnd (cmpD k p.1.frz v.frz) fun r => .ok (.d (.bl r)) (ρ.set i (some o))
  | .prop C _ f a, ρ => (evA a ρ).bind fun x ρ => bnd (argO x ρ) fun o => bnd (objC C o.frz) fun _ => (callR (Φ f) [x] ρ).noX
  | .fn k es, ρ => (evAs es ρ).bind fun as ρ => opR (fnD k) (fnSh k) as ρ
  | .isa cs ts a, ρ => (evA a ρ).bind fun x ρ => opR (isaD cs ts) false [x] ρ
  | .mt k a es, ρ => (evA a ρ).bind fun x ρ => bnd (argO x ρ) fun o => bnd (mtTy k o.frz) fun _ => (evAs es ρ).bind fun as ρ => opR (mtD k) true (x :: as) ρ
  | .mu k i path es, ρ => bnd (slotE ρ i) fun o => (evKs path (ρ.set i none)).bind fun ks ρ => bnd (pathO ks o fun o => (muTy k o).map fun _ => (.d .non, o)) fun _ => (evL es ρ).bind fun os ρ => bnd (pathO ks o fun o => muO k o os) fun p => .ok p.1 (ρ.set i (some p.2))
  | .call f es, ρ => (evAs es ρ).bind fun as ρ => callR (Φ f) as ρ
  | .meth C nm f a es g, ρ => (evA a ρ).bind fun x ρ => bnd (argO x ρ) fun o => bnd (objM C nm o.frz) fun _ => (evAs es ρ).bind fun as ρ => bnd (arr (x :: as) g) fun as => callR (Φ f) as ρ
  | .callp f es g, ρ => (evAs es ρ).bind fun as ρ => bnd (arr as g) fun as => callR (Φ f) as ρ
  | .make C f es g, ρ => (evAs es ρ).bind fun as ρ => bnd (arr (.val (.obj C [] []) :: as) g) fun as => makeR (Φ f) as ρ
  | .never, ρ => .bad
  | .dlen C f a, ρ => (evA a ρ).bind fun x ρ => bnd (argO x ρ) fun o => bnd (objC C o.frz) fun _ => (callR (Φ f) [x] ρ).noX.bind fun o ρ => bnd (lenO o) fun o => .ok o ρ
  | .din neg C f a b, ρ => (evA a ρ).bind fun x ρ => (evA b ρ).bind fun y ρ => bnd (argO y ρ) fun o => bnd (objC C o.frz) fun _ => (callR (Φ f) [y, x] ρ).noX.bind fun o ρ => bnd (notO neg o) fun o => .ok o ρ
  | .deq neg C f a b, ρ => (evA a ρ).bind fun x ρ => (evA b ρ).bind fun y ρ => bnd (argO x ρ) fun o => bnd (objC C o.frz) fun _ => bnd (argO y ρ) fun o2 => bnd (eqTy C o2.frz) fun _ => (callR (Φ f) [x, y] ρ).noX.bind fun o ρ => bnd (notO neg o) fun o => .ok o ρ
  | .comp k e own t it ifs, ρ => (evI it ρ).bind fun p ρ => ((compL (fun x ρ => bnd (asgT t x ρ) fun ρ => (evCs ifs ρ).bind fun b ρ => tst b ((ev e ρ).bind fun o ρ => .ok (some o) (killE own ρ)) (.ok none (killE own ρ))) p.2.2 (killE own ρ)).noX).bind fun os ρ' => .ok (.lst os) (backL p.1 p.2.1 (backE own ρ ρ'))
  | .comp2 e own t it ifs t2 it2 ifs2, ρ => .bad
  | .dcomp k v own t it ifs, ρ => .bad
def evL : List SE → Env → Res (List O)
  | [], ρ => .ok [] ρ
  | e :: es, ρ => (ev e ρ).bind fun o ρ => (evL es ρ).bind fun os ρ => .ok (o :: os) ρ
/-- an operand: a name is looked at when all stand -/
def evA : SE → Env → Res Arg
  | .var i, ρ => bnd (slotE ρ i) fun _ => .ok (.slot i) ρ
  | e, ρ => (ev e ρ).bind fun o ρ => .ok (.val o) ρ
def evAs : List SE → Env → Res (List Arg)
  | [], ρ => .ok [] ρ
  | e :: es, ρ => (evA e ρ).bind fun a ρ => (evAs es ρ).bind fun as ρ => .ok (a :: as) ρ
/-- keys along a path, the last one ahead: plain data, known at once -/
def evKs : List SE → Env → Res (List D)
  | [], ρ => .ok [] ρ
  | e :: es, ρ => (evKs es ρ).bind fun ks ρ => ((ev e ρ).noX).bind fun o ρ => .ok (ks ++ [o.frz]) ρ
/-- a test -/
def evC : SE → Env → Res Bool
  | .band es, ρ => evCand es ρ
  | .bor es, ρ => evCor es ρ
  | .bnot a, ρ => (evC a ρ).bind fun b ρ => .ok (!b) ρ
  | e, ρ => (evA e ρ).bind fun a ρ => (fetch a ρ).bind fun o ρ => (Res.of (truD o.frz) ρ).bind fun b ρ => .ok b (back a o ρ)
def evCand : List SE → Env → Res Bool
  | [], ρ => .ok true ρ
  | e :: es, ρ => (evC e ρ).bind fun b ρ => tst b (evCand es ρ) (.ok false ρ)
def evCor : List SE → Env → Res Bool
  | [], ρ => .ok false ρ
  | e :: es, ρ => (evC e ρ).bind fun b ρ => tst b (.ok true ρ) (evCor es ρ)
def evCs : List SE → Env → Res Bool
  | [], ρ => .ok true ρ
  | [e], ρ => evC e ρ
  | _, _ => .bad
def evAnd : List SE → Env → Res O
  | [], ρ => .bad
  | [e], ρ => ev e ρ
  | e :: es, ρ => (ev e ρ).bind fun o ρ => bnd (boolO o) fun b => tst b (evAnd es ρ) (.ok (.d (.bl false)) ρ)
def evOr : List SE → Env → Res O
  | [], ρ => .bad
  | [e], ρ => ev e ρ
  | e :: es, ρ => (ev e ρ).bind fun o ρ => bnd (boolO o) fun b => tst b (.ok (.d (.bl true)) ρ) (evOr es ρ)
/-- the items, and what was walked: it comes back behind the walk -/
def evI : IE → Env → Res (List Arg × List O × List D)
  | .of e, ρ => (evA e ρ).bind fun a ρ => (fetch a ρ).bind fun o ρ => (Res.of (walkD o.frz) ρ).bind fun ds ρ => .ok ([a], [o.shal], ds) ρ
  | .range es, ρ => (evL es ρ).bind fun os ρ => (Res.of (rangeD os) ρ).bind fun ds ρ => .ok ([], [], ds) ρ
  | .enum e, ρ => (evA e ρ).bind fun a ρ => (fetch a ρ).bind fun o ρ => (Res.of (lstD o.frz) ρ).bind fun ds ρ => .ok ([a], [o.shal], enumD 0 ds) ρ
  | .zip a b, ρ => (evA a ρ).bind fun a ρ => (evA b ρ).bind fun b ρ => (fetch a ρ).bind fun o ρ => (fetch b ρ).bind fun o2 ρ => (Res.of (zip2D o.frz o2.frz) ρ).bind fun ds ρ => .ok ([a, b], [o.shal, o2.shal], ds) ρ
  | .items e, ρ => .bad
  | .vals e, ρ => .bad
  | .rev e, ρ => .bad
  | .keys i, ρ => bnd (slotE ρ i) fun o => bnd (keysD o) fun ds => .ok ([], [], ds) ρ
end
end
end PV
/-! PV4: statements and defs -/
namespace PV
open PySem L2
def Res.mapE {α : Type} (r : Res α) (g : Env → Env) : Res α := match r with
  | .ok a ρ => .ok a (g ρ)
  | .exc C p ρ => .exc C p (g ρ)
  | .bad => .bad
@[simp] theorem Res.mapE_ok {α : Type} {a : α} {ρ : Env} {g : Env → Env} : (Res.ok a ρ).mapE g = .ok a (g ρ) := rfl
@[simp] theorem Res.mapE_exc {α : Type} {C : Nat} {p : List D} {ρ : Env} {g : Env → Env} : (Res.exc C p ρ : Res α).mapE g = .exc C p (g ρ) := rfl
theorem Res.mapE_congr {α : Type} {r r' : Res α} {g : Env → Env} (h : r = r') : r.mapE g = r'.mapE g := by rw [h]
def Res.caught (r : Res Fl) (e x : Nat) : Res Fl := match r with
  | .exc C p ρ => .ok .nx ((ρ.set e none).set x (some (.d (.exc C p))))
  | r => r
@[simp] theorem Res.caught_ok {f : Fl} {ρ : Env} {e x : Nat} : (Res.ok f ρ).caught e x = .ok f ρ := rfl
@[simp] theorem Res.caught_exc {C : Nat} {p : List D} {ρ : Env} {e x : Nat} : (Res.exc C p ρ : Res Fl).caught e x = .ok .nx ((ρ.set e none).set x (some (.d (.exc C p)))) := rfl
theorem Res.caught_congr {r r' : Res Fl} {e x : Nat} (h : r = r') : r.caught e x = r'.caught e x := by rw [h]
def Fl.whl : Fl → Option Fl
  | .nx => none
  | .ct => none
  | .bk => some .nx
  | .rt o => some (.rt o)
def plainO : O → Option D
  | .d x => some x
  | _ => none
/-- a store at the end of a path -/
def setPath (ks : List D) (o v : O) : Option O := match ks.getLast? with
  | some k => (pathO ks.dropLast o fun o => (setO o k v).map fun o' => (.d .non, o')).map (·.2)
  | none => none
def getPath : List D → D → Option D
  | [], d => some d
  | k :: ks, d => match idxD [d, k] with
    | some (.d e) => getPath ks e
    | _ => none
/-- which classes of errors hold a value -/
def excP (C : Nat) (os : List O) : List D := if C = 2 ∨ C = 6 ∨ C = 7 ∨ C = 12 ∨ C = 13 ∨ C = 14 then os.map O.frz else []
section
variable (Φ : Phi)
mutual
noncomputable def evS : SS → Env → Res Fl
  | .asg t e, ρ => (ev Φ e ρ).bind fun o ρ => bnd (asgO t o ρ) fun ρ => .ok .nx ρ
  | .sub i path e, ρ => (ev Φ e ρ).bind fun v ρ => bnd (slotE ρ i) fun o => (evKs Φ path (ρ.set i none)).bind fun ks ρ => bnd (setPath ks o v) fun o' => .ok .nx (ρ.set i (some o'))
  | .fld i C f e, ρ => (ev Φ e ρ).bind fun v ρ => bnd (slotE ρ i) fun o => bnd (setF C f v o) fun o' => .ok .nx (ρ.set i (some o'))
  | .aug i k e, ρ => bnd (slotE ρ i) fun x => bnd (plainO x) fun x => (ev Φ e ρ).bind fun v ρ => bnd (biD k [x, v.frz]) fun r => .ok .nx (ρ.set i (some r))
  | .augs i path k e, ρ => bnd (slotE ρ i) fun o => (evKs Φ path (ρ.set i none)).bind fun ks ρ => bnd (getPath ks o.frz) fun x => (ev Φ e ρ).bind fun v ρ => bnd (biD k [x, v.frz]) fun r => bnd (setPath ks o r) fun o' => .ok .nx (ρ.set i (some o'))
  | .exp e, ρ => (ev Φ e ρ).bind fun _ ρ => .ok .nx ρ
  | .ret e, ρ => (ev Φ e ρ).bind fun o ρ => .ok (.rt o) ρ
  | .retN, ρ => .ok (.rt (.d .non)) ρ
  | .ite c a b, ρ => (evC Φ c ρ).bind fun t ρ => tst t (evSs a ρ) (evSs b ρ)
  | .for t it b, ρ => (evI Φ it ρ).bind fun p ρ => (forL (fun x ρ => bnd (asgT t x ρ) fun ρ => evSs b ρ) p.2.2 ρ).mapE (backL p.1 p.2.1)
  | .whl c b, ρ => whlL (fun ρ => (evC Φ c ρ).bind fun t ρ => tst t ((evSs b ρ).bind fun f ρ => .ok f.whl ρ) (.ok (some .nx) ρ)) ρ
  | .rse C es, ρ => (evL Φ es ρ).bind fun os ρ => .exc C (excP C os) ρ
  | .try b e x, ρ => (evSs b ρ).caught e x
  | .pass, ρ => .ok .nx ρ
  | .brk, ρ => .ok .bk ρ
  | .cont, ρ => .ok .ct ρ
  | .kill l, ρ => .ok .nx (killE l ρ)
  | .never, ρ => .bad
  | .lck i s, ρ => bnd (slotE ρ i) fun o => bnd (keysD (.d o.frz)) fun _ => (evS s (ρ.set i (some (.d o.frz)))).noX
noncomputable def evSs : List SS → Env → Res Fl
  | [], ρ => .ok .nx ρ
  | s :: ss, ρ => (evS s ρ).bind fun e ρ => e.seq (evSs ss) ρ
end
end
/-- a def with n parameters and m names in all: what its body gives -/
def iosOf : List O → Env → Option (List O)
  | [], _ => some []
  | .d x :: r, ρ => (iosOf r (ρ.drop 1)).map (.d x :: ·)
  | _ :: r, ρ => match ρ with
    | some o :: ρ' => (iosOf r ρ').map (o :: ·)
    | _ => none
/-- what a def gives, of what its body does -/
def Res.done (r : Res Fl) (args : List O) : FRes := match r with
  | .ok (.rt o) ρ => (match iosOf args ρ with
    | some ios => .ok o ios
    | none => .bad)
  | .ok .nx ρ => (match iosOf args ρ with
    | some ios => .ok (.d .non) ios
    | none => .bad)
  | .exc C p ρ => (match iosOf args ρ with
    | some ios => .exc C p ios
    | none => .bad)
  | _ => .bad
theorem Res.done_congr {r r' : Res Fl} {args : List O} (h : r = r') : r.done args = r'.done args := by rw [h]
noncomputable def runF (Φ : Phi) (b : List SS) (m : Nat) (args : List O) : FRes :=
  (evSs Φ b (args.map some ++ List.replicate (m - args.length) none)).done args
end PV
/-! PV5: slots and operands against the heap -/
namespace PV
open PySem L2
/-- the things that the slots hold -/
def envIts : Env → St → List It1
  | some o :: ρ, some v :: σ => (o, v) :: envIts ρ σ
  | _ :: ρ, _ :: σ => envIts ρ σ
  | _, _ => []
def EnvOk : Env → St → Prop
  | [], [] => True
  | some _ :: ρ, some _ :: σ => EnvOk ρ σ
  | none :: ρ, _ :: σ => EnvOk ρ σ
  | _, _ => False
theorem EnvOk.len : ∀ {ρ : Env} {σ : St}, EnvOk ρ σ → ρ.length = σ.length
  | [], [], _ => rfl
  | some _ :: ρ, some _ :: σ, h => by simp [EnvOk.len (ρ := ρ) (σ := σ) h]
  | none :: ρ, none :: σ, h => by simp [EnvOk.len (ρ := ρ) (σ := σ) h]
  | none :: ρ, some _ :: σ, h => by simp [EnvOk.len (ρ := ρ) (σ := σ) h]
  | some _ :: _, none :: _, h => h.elim
  | [], _ :: _, h => h.elim
  | some _ :: _, [], h => h.elim
  | none :: _, [], h => h.elim
theorem EnvOk.at : ∀ {ρ : Env} {σ : St} {i : Nat} {o : O}, EnvOk ρ σ → slotE ρ i = some o → ∃ v, σ[i]? = some (some v)
  | some p :: ρ, some v :: σ, 0, o, h, e => ⟨v, rfl⟩
  | some p :: ρ, some v :: σ, i + 1, o, h, e => by
    obtain ⟨w, q⟩ := EnvOk.at (ρ := ρ) (σ := σ) (i := i) h e
    exact ⟨w, by simpa using q⟩
  | none :: ρ, _ :: σ, 0, o, h, e => by simp at e
  | none :: ρ, s :: σ, i + 1, o, h, e => by
    obtain ⟨w, q⟩ := EnvOk.at (ρ := ρ) (σ := σ) (i := i) h e
    exact ⟨w, by simpa using q⟩
  | [], σ, i, o, h, e => by simp at e
  | some _ :: _, none :: _, i, o, h, e => h.elim
  | some _ :: _, [], i, o, h, e => h.elim
theorem EnvOk.clear : ∀ {ρ : Env} {σ : St} (i : Nat), EnvOk ρ σ → EnvOk (ρ.set i none) σ
  | [], [], i, h => h
  | some p :: ρ, some v :: σ, 0, h => h
  | some p :: ρ, some v :: σ, i + 1, h => EnvOk.clear (ρ := ρ) (σ := σ) i h
  | none :: ρ, s :: σ, 0, h => h
  | none :: ρ, s :: σ, i + 1, h => EnvOk.clear (ρ := ρ) (σ := σ) i h
  | [], _ :: _, i, h => h.elim
  | some _ :: _, none :: _, i, h => h.elim
  | some _ :: _, [], i, h => h.elim
  | none :: _, [], i, h => h.elim
theorem EnvOk.put : ∀ {ρ : Env} {σ : St} (i : Nat) (o : O) (v : V), EnvOk ρ σ → EnvOk (ρ.set i (some o)) (σ.set i (some v))
  | [], [], i, o, v, h => h
  | some p :: ρ, some w :: σ, 0, o, v, h => h
  | some p :: ρ, some w :: σ, i + 1, o, v, h => EnvOk.put (ρ := ρ) (σ := σ) i o v h
  | none :: ρ, s :: σ, 0, o, v, h => h
  | none :: ρ, s :: σ, i + 1, o, v, h => by
    show EnvOk (none :: ρ.set i (some o)) (s :: σ.set i (some v))
    exact EnvOk.put (ρ := ρ) (σ := σ) i o v h
  | [], _ :: _, i, o, v, h => h.elim
  | some _ :: _, none :: _, i, o, v, h => h.elim
  | some _ :: _, [], i, o, v, h => h.elim
  | none :: _, [], i, o, v, h => h.elim
/-- a slot that holds a value may hold a thing -/
theorem EnvOk.fill : ∀ {ρ : Env} {σ : St} {i : Nat} {v : V} (o : O), EnvOk ρ σ → σ[i]? = some (some v) → EnvOk (ρ.set i (some o)) σ
  | [], [], i, v, o, h, e => h
  | some p :: ρ, some w :: σ, 0, v, o, h, e => h
  | some p :: ρ, some w :: σ, i + 1, v, o, h, e => EnvOk.fill (ρ := ρ) (σ := σ) (i := i) o h (by simpa using e)
  | none :: ρ, some s :: σ, 0, v, o, h, e => h
  | none :: ρ, none :: σ, 0, v, o, h, e => by simp at e
  | none :: ρ, s :: σ, i + 1, v, o, h, e => by
    show EnvOk (none :: ρ.set i (some o)) (s :: σ)
    exact EnvOk.fill (ρ := ρ) (σ := σ) (i := i) o h (by simpa using e)
  | [], _ :: _, i, v, o, h, e => h.elim
  | some _ :: _, none :: _, i, v, o, h, e => h.elim
  | some _ :: _, [], i, v, o, h, e => h.elim
  | none :: _, [], i, v, o, h, e => h.elim
theorem its_take : ∀ {ρ : Env} {σ : St} {i : Nat} {o : O} {v : V}, slotE ρ i = some o → σ[i]? = some (some v) → (envIts ρ σ).Perm ((o, v) :: envIts (ρ.set i none) σ)
  | some p :: ρ, some w :: σ, 0, o, v, e, e' => by
    simp at e e'
    subst e e'
    exact .refl _
  | some p :: ρ, some w :: σ, i + 1, o, v, e, e' => by
    have q := its_take (ρ := ρ) (σ := σ) (i := i) (o := o) (v := v) e (by simpa using e')
    exact (q.cons (p, w)).trans (.swap _ _ _)
  | some p :: ρ, none :: σ, 0, o, v, e, e' => by simp at e'
  | some p :: ρ, none :: σ, i + 1, o, v, e, e' => by
    have q := its_take (ρ := ρ) (σ := σ) (i := i) (o := o) (v := v) e (by simpa using e')
    simpa [envIts] using q
  | none :: ρ, s :: σ, 0, o, v, e, e' => by simp at e
  | none :: ρ, s :: σ, i + 1, o, v, e, e' => by
    have q := its_take (ρ := ρ) (σ := σ) (i := i) (o := o) (v := v) e (by simpa using e')
    cases s <;> simpa [envIts] using q
  | [], σ, i, o, v, e, e' => by simp at e
  | _ :: _, [], i, o, v, e, e' => by simp at e'
theorem its_put : ∀ {ρ : Env} {σ : St} {i : Nat} (o : O) (v : V), i < ρ.length → i < σ.length → (envIts (ρ.set i (some o)) (σ.set i (some v))).Perm ((o, v) :: envIts (ρ.set i none) σ)
  | p :: ρ, s :: σ, 0, o, v, h, h' => by
    cases s <;> exact .refl _
  | some p :: ρ, some w :: σ, i + 1, o, v, h, h' => by
    have q := its_put (ρ := ρ) (σ := σ) (i := i) o v (by simpa using h) (by simpa using h')
    exact (q.cons (p, w)).trans (.swap _ _ _)
  | some p :: ρ, none :: σ, i + 1, o, v, h, h' => by
    have q := its_put (ρ := ρ) (σ := σ) (i := i) o v (by simpa using h) (by simpa using h')
    simpa [envIts] using q
  | none :: ρ, s :: σ, i + 1, o, v, h, h' => by
    have q := its_put (ρ := ρ) (σ := σ) (i := i) o v (by simpa using h) (by simpa using h')
    cases s <;> simpa [envIts] using q
  | [], σ, i, o, v, h, h' => by simp at h
  | _ :: _, [], i, o, v, h, h' => by simp at h'
/-- the same where the value stands already -/
theorem its_fill {ρ : Env} {σ : St} {i : Nat} (o : O) {v : V} (h : i < ρ.length) (e : σ[i]? = some (some v)) : (envIts (ρ.set i (some o)) σ).Perm ((o, v) :: envIts (ρ.set i none) σ) := by
  have hi : i < σ.length := by
    rcases Nat.lt_or_ge i σ.length with z | z
    · exact z
    · rw [List.getElem?_eq_none z] at e; cases e
  have q := its_put (ρ := ρ) (σ := σ) o v h hi
  have es : σ.set i (some v) = σ := by
    apply List.ext_getElem?
    intro j
    by_cases hj : j = i
    · subst hj; rw [List.getElem?_set_self hi, e]
    · rw [List.getElem?_set_ne (Ne.symm hj)]
  rwa [es] at q
theorem slot_lt {ρ : Env} {i : Nat} {o : O} (e : slotE ρ i = some o) : i < ρ.length := by
  rcases Nat.lt_or_ge i ρ.length with z | z
  · exact z
  · unfold slotE at e
    rw [List.getElem?_eq_none z] at e
    cases e
theorem slot_lt' {σ : St} {i : Nat} {v : V} (e : σ[i]? = some (some v)) : i < σ.length := by
  rcases Nat.lt_or_ge i σ.length with z | z
  · exact z
  · rw [List.getElem?_eq_none z] at e; cases e
section
variable {T : Tab} {B : Base} {H H' : Hp} {ρ ρ' : Env} {σ : St} {l : List It1} {o : O} {v : V} {i : Nat} {x : D}
/-- the state: the slots' things and the others -/
structure At (T : Tab) (B : Base) (H : Hp) (ρ : Env) (σ : St) (l : List It1) : Prop where
  ok : EnvOk ρ σ
  sat : Sat T B H (envIts ρ σ ++ l)
  pr : ∀ p ∈ B.pr, σ[p.1]? = some (some p.2)
theorem At.take (a : At T B H ρ σ l) (e : slotE ρ i = some o) (ev : σ[i]? = some (some v)) : At T B H (ρ.set i none) σ ((o, v) :: l) := by
  refine ⟨a.ok.clear i, a.sat.perm ?_, a.pr⟩
  exact ((its_take e ev).append_right l).trans List.perm_middle.symm
theorem At.fill (a : At T B H ρ σ ((o, v) :: l)) (h : slotE ρ i = none) (hi : i < ρ.length) (ev : σ[i]? = some (some v)) : At T B H (ρ.set i (some o)) σ l := by
  refine ⟨a.ok.fill o ev, a.sat.perm ?_, a.pr⟩
  have q := (its_fill (ρ := ρ) o hi ev).append_right l
  have e : ρ.set i none = ρ := by
    apply List.ext_getElem?
    intro j
    by_cases hj : j = i
    · subst hj
      rw [List.getElem?_set_self hi]
      unfold slotE at h
      cases q : ρ[j]? with
      | none => rw [List.getElem?_eq_none_iff] at q; omega
      | some w => rw [q] at h; cases w with
        | none => rfl
        | some w => cases h
    · rw [List.getElem?_set_ne (Ne.symm hj)]
  rw [e] at q
  exact List.perm_middle.trans q.symm
theorem At.drop (a : At T B H ρ σ ((o, v) :: l)) : At T B H ρ σ l := ⟨a.ok, (a.sat.perm List.perm_middle).drop1, a.pr⟩
theorem At.perm {m : List It1} (a : At T B H ρ σ l) (p : l.Perm m) : At T B H ρ σ m := ⟨a.ok, a.sat.perm (p.append_left _), a.pr⟩
theorem At.clear (a : At T B H ρ σ l) (i : Nat) : At T B H (ρ.set i none) σ l := by
  cases e : slotE ρ i with
  | none =>
    have : ρ.set i none = ρ := by
      apply List.ext_getElem?
      intro j
      by_cases hj : j = i
      · subst hj
        rcases Nat.lt_or_ge j ρ.length with z | z
        · rw [List.getElem?_set_self z]
          unfold slotE at e
          cases q : ρ[j]? with
          | none => rw [List.getElem?_eq_none_iff] at q; omega
          | some w => rw [q] at e; cases w with
            | none => rfl
            | some w => cases e
        · rw [List.getElem?_eq_none (by simpa using z), List.getElem?_eq_none z]
      · rw [List.getElem?_set_ne (Ne.symm hj)]
    rw [this]; exact a
  | some o =>
    obtain ⟨v, ev⟩ := a.ok.at e
    exact (a.take e ev).drop
theorem At.kill : ∀ {is : List Nat} {ρ : Env}, At T B H ρ σ l → At T B H (killE is ρ) σ l
  | [], ρ, a => a
  | i :: is, ρ, a => At.kill (is := is) (a.clear i)
/-- a slot is stored -/
theorem At.store (a : At T B H ρ σ ((o, v) :: l)) (hi : i < ρ.length) (hp : ∀ p ∈ B.pr, p.1 ≠ i) : At T B H (ρ.set i (some o)) (σ.set i (some v)) l := by
  have c := a.clear i
  refine ⟨a.ok.put i o v, c.sat.perm ?_, fun p hp' => by rw [List.getElem?_set_ne (Ne.symm (hp p hp'))]; exact a.pr p hp'⟩
  have q := (its_put (ρ := ρ) (σ := σ) o v hi (by rw [← a.ok.len]; exact hi)).append_right l
  exact List.perm_middle.trans q.symm
theorem At.set_same (a : At T B H ρ σ l) (e : slotE ρ i = some o) (h : ∀ v, At T B H (ρ.set i none) σ ((o, v) :: l) → σ[i]? = some (some v) → ∃ p : O, At T B H' (ρ.set i none) σ ((p, v) :: l) ∧ ρ' = ρ.set i (some p)) : At T B H' ρ' σ l := by
  obtain ⟨v, ev⟩ := a.ok.at e
  obtain ⟨p, a', rfl⟩ := h v (a.take e ev) ev
  have hi := slot_lt e
  have := a'.fill (i := i) (by unfold slotE; rw [List.getElem?_set_self hi]; rfl) (by simpa using hi) ev
  rwa [List.set_set] at this
end
/-! ### operands -/
def argIts : Arg → V → List It1
  | .slot _, _ => []
  | .val o, v => [(o, v)]
def ArgV (σ : St) : Arg → V → Prop
  | .slot i, v => σ[i]? = some (some v)
  | .val _, _ => True
def argItsL : List Arg → List V → List It1
  | a :: as, v :: vs => argIts a v ++ argItsL as vs
  | _, _ => []
def ArgVs (σ : St) : List Arg → List V → Prop
  | [], [] => True
  | a :: as, v :: vs => ArgV σ a v ∧ ArgVs σ as vs
  | _, _ => False
/-- an exception by its class and what it holds: its own dict at d -/
def excFld (C : Nat) : Str := if C = 2 then "name" else if C = 6 then "end" else if C = 7 then "ring" else if C = 12 then "at" else if C = 13 then "most" else "line"
def ExcIt (T : Tab) (H : Hp) (C : Nat) (p : List D) (d : Option Addr) (its : List It1) : Prop := match p with
  | [] => d = none ∧ its = []
  | [x] => ∃ dx v, d = some dx ∧ H dx = some (.xd [(excFld C, v)]) ∧ its = [(.d x, v)]
  | _ => False
section
variable {T : Tab} {B : Base} {H H' : Hp} {ρ ρ' : Env} {σ : St} {l : List It1} {o : O} {v : V} {i : Nat} {x : D}
theorem fetch_at {a : Arg} (s : At T B H ρ σ (argIts a v ++ l)) (av : ArgV σ a v) (e : fetch a ρ = .ok o ρ') : At T B H ρ' σ ((o, v) :: l) := by
  cases a with
  | val p =>
    injection e with e1 e2
    subst e1 e2
    exact s
  | slot i =>
    have av : σ[i]? = some (some v) := av
    have s : At T B H ρ σ l := s
    have e : bnd (slotE ρ i) (fun o => Res.ok o (fetch.taken o i ρ)) = .ok o ρ' := e
    cases q : slotE ρ i with
    | none => rw [q] at e; cases e
    | some p =>
      rw [q] at e
      injection e with e1 e2
      subst e1
      have t := s.take q av
      have hi := slot_lt q
      cases p with
      | d x =>
        have e2 : ρ = ρ' := e2
        subst e2
        have t2 : At T B H (ρ.set i none) σ ((.d x, v) :: (.d x, v) :: l) := ⟨t.ok, ((t.sat.perm List.perm_middle).dup).perm (List.perm_middle.trans (List.perm_middle.cons _)).symm, t.pr⟩
        have t3 := t2.fill (i := i) (by unfold slotE; rw [List.getElem?_set_self hi]; rfl) (by simpa using hi) av
        rw [List.set_set] at t3
        have es : ρ.set i (some (.d x)) = ρ := by
          apply List.ext_getElem?
          intro j
          by_cases hj : j = i
          · subst hj
            rw [List.getElem?_set_self hi]
            unfold slotE at q
            cases q' : ρ[j]? with
            | none => rw [q'] at q; cases q
            | some w => rw [q'] at q; cases w with
              | none => cases q
              | some w => cases q; rfl
          · rw [List.getElem?_set_ne (Ne.symm hj)]
        rwa [es] at t3
      | lst xs =>
        have e2 : ρ.set i none = ρ' := e2
        subst e2; exact t
      | tup xs =>
        have e2 : ρ.set i none = ρ' := e2
        subst e2; exact t
      | dic ks xs =>
        have e2 : ρ.set i none = ρ' := e2
        subst e2; exact t
      | obj C ns xs =>
        have e2 : ρ.set i none = ρ' := e2
        subst e2; exact t
theorem ArgVs.len {σ : St} : ∀ {as : List Arg} {vs : List V}, ArgVs σ as vs → as.length = vs.length
  | [], [], _ => rfl
  | a :: as, v :: vs, h => by simp [ArgVs.len (as := as) (vs := vs) h.2]
  | [], _ :: _, h => h.elim
  | _ :: _, [], h => h.elim
theorem Res.bind_of {α β : Type} {r : Res α} {f : α → Env → Res β} {b : β} (e : r.bind f = .ok b ρ') : ∃ a ρ1, r = .ok a ρ1 ∧ f a ρ1 = .ok b ρ' := by
  cases r with
  | ok a ρ1 => exact ⟨a, ρ1, rfl, e⟩
  | exc C p ρ1 => cases e
  | bad => cases e
theorem fetchL_at : ∀ {as : List Arg} {vs : List V} {ρ ρ' : Env} {l : List It1} {os : List O}, At T B H ρ σ (argItsL as vs ++ l) → ArgVs σ as vs → fetchL as ρ = .ok os ρ' → os.length = vs.length ∧ At T B H ρ' σ (os.zip vs ++ l)
  | [], [], ρ, ρ', l, os, s, _, e => by
    injection e with e1 e2
    subst e1 e2
    exact ⟨rfl, s⟩
  | a :: as, v :: vs, ρ, ρ', l, os, s, av, e => by
    have e : ((fetch a ρ).bind fun o ρ => (fetchL as ρ).bind fun os ρ => Res.ok (o :: os) ρ) = .ok os ρ' := e
    obtain ⟨o, ρ1, e1, e⟩ := Res.bind_of e
    obtain ⟨os', ρ2, e2, e⟩ := Res.bind_of e
    injection e with e3 e4
    subst e3 e4
    have s1 : At T B H ρ σ (argIts a v ++ (argItsL as vs ++ l)) := by
      have s : At T B H ρ σ ((argIts a v ++ argItsL as vs) ++ l) := s
      rwa [List.append_assoc] at s
    have s2 := fetch_at s1 av.1 e1
    have s3 : At T B H ρ1 σ (argItsL as vs ++ (o, v) :: l) := s2.perm List.perm_middle.symm
    obtain ⟨hl, s4⟩ := fetchL_at s3 av.2 e2
    exact ⟨by simp [hl], s4.perm List.perm_middle⟩
  | [], _ :: _, ρ, ρ', l, os, s, av, e => av.elim
  | _ :: _, [], ρ, ρ', l, os, s, av, e => av.elim
theorem back_at {a : Arg} (s : At T B H ρ σ ((o, v) :: l)) (av : ArgV σ a v) : At T B H (back a o ρ) σ l := by
  cases a with
  | val p => exact s.drop
  | slot i =>
    have av : σ[i]? = some (some v) := av
    have hi : i < ρ.length := by rw [s.ok.len]; exact slot_lt' av
    have t := (s.clear i).fill (i := i) (by unfold slotE; rw [List.getElem?_set_self hi]; rfl) (by simpa using hi) av
    rw [List.set_set] at t
    exact t
theorem backL_at : ∀ {as : List Arg} {os : List O} {vs : List V} {ρ : Env}, os.length = vs.length → At T B H ρ σ (os.zip vs ++ l) → ArgVs σ as vs → At T B H (backL as os ρ) σ l
  | [], [], [], ρ, _, s, _ => s
  | a :: as, o :: os, v :: vs, ρ, hl, s, av => by
    have s1 : At T B H ρ σ ((o, v) :: (os.zip vs ++ l)) := s
    exact backL_at (as := as) (os := os) (vs := vs) (by simpa using hl) (back_at s1 av.1) av.2
  | [], _ :: _, vs, ρ, hl, s, av => by
    cases vs with
    | nil => simp at hl
    | cons _ _ => exact av.elim
  | [], [], _ :: _, ρ, hl, s, av => by simp at hl
  | _ :: _, [], [], ρ, hl, s, av => av.elim
  | _ :: _, [], _ :: _, ρ, hl, s, av => by simp at hl
  | _ :: _, _ :: _, [], ρ, hl, s, av => by simp at hl
/-- an operation by values: f of the data; sh: what it gives may hold what the operands hold -/
def relN (T : Tab) (B : Base) (f : List D → Option O) (sh : Bool) (xs : List V) (H : Hp) (Q : VK) : Prop := ∃ (os : List O) (l : List It1) (r : O), os.length = xs.length ∧ Sat T B H (os.zip xs ++ l) ∧ f (os.map O.frz) = some r ∧
  ∀ u H', Sat T B H' ((r, u) :: ((if sh then os.map O.shal else os).zip xs ++ l)) → Q u H'
/-- how an expression's end is met -/
def RP (T : Tab) (B : Base) (W : WX) (σ : St) (l : List It1) (r : Res O) (Q : VK) : Prop := match r with
  | .ok o ρ => ∀ v H, At T B H ρ σ ((o, v) :: l) → Q v H
  | .exc C p ρ => ∀ d H its, At T B H ρ σ (its ++ l) → ExcIt T H C p d its → W (.ref (T.cls C)) d σ H
  | .bad => False
theorem opR_ok {f : List D → Option O} {sh : Bool} {as : List Arg} {vs : List V} {W : WX} {Q : VK} (s : At T B H ρ σ (argItsL as vs ++ l)) (av : ArgVs σ as vs) (h : RP T B W σ l (opR f sh as ρ) Q) : relN T B f sh vs H Q := by
  unfold opR at h
  cases e : fetchL as ρ with
  | exc C p ρ1 =>
    exfalso
    have : ∀ {as : List Arg} {ρ : Env}, fetchL as ρ ≠ .exc C p ρ1 := by
      intro as
      induction as with
      | nil => intro ρ z; cases z
      | cons a as ih =>
        intro ρ z
        have z : ((fetch a ρ).bind fun o ρ => (fetchL as ρ).bind fun os ρ => Res.ok (o :: os) ρ) = .exc C p ρ1 := z
        cases ea : fetch a ρ with
        | ok o ρ2 =>
          rw [ea] at z
          cases eb : fetchL as ρ2 with
          | ok os ρ3 => rw [Res.bind_ok, eb] at z; cases z
          | exc C' p' ρ3 => rw [Res.bind_ok, eb] at z; injection z with z1 z2 z3; subst z1 z2 z3; exact ih eb
          | bad => rw [Res.bind_ok, eb] at z; cases z
        | exc C' p' ρ2 =>
          cases a with
          | val o => cases ea
          | slot i =>
            have ea : bnd (slotE ρ i) (fun o => Res.ok o (fetch.taken o i ρ)) = .exc C' p' ρ2 := ea
            cases q : slotE ρ i <;> rw [q] at ea <;> cases ea
        | bad => rw [ea] at z; cases z
    exact this e
  | bad => rw [e] at h; exact h.elim
  | ok os ρ1 =>
    rw [e] at h
    obtain ⟨hl, s1⟩ := fetchL_at s av e
    have h : RP T B W σ l ((Res.of (f (os.map O.frz)) ρ1).bind fun r ρ => .ok r (backL as (if sh then os.map O.shal else os) ρ)) Q := h
    cases er : f (os.map O.frz) with
    | none => rw [er] at h; exact h.elim
    | some r =>
      rw [er] at h
      refine ⟨os, envIts ρ1 σ ++ l, r, hl, s1.sat.perm ?_, er, fun u H' q => ?_⟩
      · exact (List.perm_append_comm.trans (by rw [List.append_assoc]; exact (List.perm_append_comm (l₁ := l) (l₂ := envIts ρ1 σ)).append_left _))
      · have h : ∀ v H, At T B H (backL as (if sh then os.map O.shal else os) ρ1) σ ((r, v) :: l) → Q v H := h
        refine h u H' (backL_at (os := if sh then os.map O.shal else os) (vs := vs) (by cases sh <;> simp [hl]) ⟨s1.ok, q.perm ?_, s1.pr⟩ av)
        generalize (if sh then os.map O.shal else os).zip vs = z
        have p1 : ((r, u) :: (z ++ (envIts ρ1 σ ++ l))).Perm (z ++ (r, u) :: (envIts ρ1 σ ++ l)) := List.perm_middle.symm
        have p2 : (z ++ (r, u) :: (envIts ρ1 σ ++ l)).Perm (z ++ (envIts ρ1 σ ++ (r, u) :: l)) := List.perm_middle.symm.append_left z
        have p3 : (z ++ (envIts ρ1 σ ++ (r, u) :: l)).Perm (envIts ρ1 σ ++ (z ++ (r, u) :: l)) := by
          rw [← List.append_assoc, ← List.append_assoc]
          exact List.perm_append_comm.append_right _
        exact p1.trans (p2.trans p3)
end
end PV
/-! PV6: the operations, each by the layer's rule -/
namespace PV
open PySem PySem.Spec PyProof.Rows L2
section
variable {T : Tab} {B : Base} {H H' : Hp} {l : List It1} {o : O} {v : V} {x : D} {a : Addr} {hs : List Addr}
theorem rel1 {f : List D → Option O} {sh : Bool} {y : V} {Q : VK} (h : relN T B f sh [y] H Q) : ∃ o l r, Sat T B H ((o, y) :: l) ∧ f [o.frz] = some r ∧ ∀ u H', Sat T B H' ((r, u) :: (if sh then o.shal else o, y) :: l) → Q u H' := by
  obtain ⟨os, l, r, hl, s, e, q⟩ := h
  match os, hl with
  | [o], _ => exact ⟨o, l, r, s, e, fun u H' z => q u H' (by cases sh <;> exact z)⟩
theorem rel2 {f : List D → Option O} {sh : Bool} {y z : V} {Q : VK} (h : relN T B f sh [y, z] H Q) : ∃ o p l r, Sat T B H ((o, y) :: (p, z) :: l) ∧ f [o.frz, p.frz] = some r ∧ ∀ u H', Sat T B H' ((r, u) :: (if sh then o.shal else o, y) :: (if sh then p.shal else p, z) :: l) → Q u H' := by
  obtain ⟨os, l, r, hl, s, e, q⟩ := h
  match os, hl with
  | [o, p], _ => exact ⟨o, p, l, r, s, e, fun u H' z => q u H' (by cases sh <;> exact z)⟩
/-- a plain value is had for nothing -/
theorem SatH.int {i : Int} (s : SatH T B H hs l) : SatH T B H hs ((.d (.int i), .int i) :: l) := s.lit fun _ _ => rfl
theorem SatH.bl {b : Bool} (s : SatH T B H hs l) : SatH T B H hs ((.d (.bl b), .bl b) :: l) := s.lit fun _ _ => rfl
theorem SatH.str {z : Str} (s : SatH T B H hs l) : SatH T B H hs ((.d (.str z), .str z) :: l) := s.lit fun _ _ => rfl
theorem SatH.non (s : SatH T B H hs l) : SatH T B H hs ((.d .non, .non) :: l) := s.lit fun _ _ => rfl
theorem SatH.swap {p q : It1} (s : SatH T B H hs (p :: q :: l)) : SatH T B H hs (q :: p :: l) := s.perm (.swap _ _ _)
theorem SatH.read2 {p : It1} (s : SatH T B H hs (p :: (o, v) :: l)) : Dr T (fun _ => False) (vw B.Z H) o.frz v := s.swap.read
theorem SatH.read3 {p q : It1} (s : SatH T B H hs (p :: q :: (o, v) :: l)) : Dr T (fun _ => False) (vw B.Z H) o.frz v := (SatH.drop1 (o := p.1) (v := p.2) s).swap.read
theorem readL (s : SatH T B H hs l) {xs : List D} (d : Dr T (fun _ => False) (vw B.Z H) (.lst xs) v) : ∃ a vs, v = .ref a ∧ SqL T.K H a vs ∧ DrL T (fun _ => False) (vw B.Z H) xs vs := by
  obtain ⟨a, vs, e, h, d⟩ := d
  exact ⟨a, vs, e, h.imp (fun z => rd_vw s (fun _ _ z => nomatch z) z.2) id, d⟩
theorem readT (s : SatH T B H hs l) {xs : List D} (d : Dr T (fun _ => False) (vw B.Z H) (.tup xs) v) : ∃ a vs, v = .ref a ∧ SqT T.K H a vs ∧ DrL T (fun _ => False) (vw B.Z H) xs vs := by
  obtain ⟨a, vs, e, h, d⟩ := d
  exact ⟨a, vs, e, sqT_vw s h, d⟩
/-- what is in a thing, frozen, beside it -/
theorem frzL_len : ∀ os : List O, (O.frzL os).length = os.length
  | [] => rfl
  | o :: os => by simp [O.frzL, frzL_len os]
theorem Sat.freezeL {os : List O} {vs : List V} : ∀ {l : List It1}, os.length = vs.length → SatH T B H hs (os.zip vs ++ l) → SatH T B H hs ((os.map fun o => O.d o.frz).zip vs ++ l) := by
  induction os generalizing vs with
  | nil => intro l _ s; exact s
  | cons o os ih =>
    intro l hl s
    match vs, hl with
    | v :: vs, hl =>
      have s1 : SatH T B H hs ((o, v) :: (os.zip vs ++ l)) := s
      have s2 : SatH T B H hs (os.zip vs ++ (O.d o.frz, v) :: l) := s1.freeze.perm List.perm_middle.symm
      exact (ih (by simpa using hl) s2).perm List.perm_middle
theorem Sat.dupL {xs : List D} {vs : List V} : ∀ {l : List It1}, xs.length = vs.length → SatH T B H hs ((xs.map O.d).zip vs ++ l) → SatH T B H hs ((xs.map O.d).zip vs ++ ((xs.map O.d).zip vs ++ l)) := by
  induction xs generalizing vs with
  | nil => intro l _ s; exact s
  | cons x xs ih =>
    intro l hl s
    match vs, hl with
    | v :: vs, hl =>
      have s1 : SatH T B H hs ((O.d x, v) :: ((xs.map O.d).zip vs ++ l)) := s
      have s2 : SatH T B H hs ((xs.map O.d).zip vs ++ ((O.d x, v) :: (O.d x, v) :: l)) := s1.dup.perm ((List.perm_middle (l₁ := (xs.map O.d).zip vs)).trans ((List.perm_middle (l₁ := (xs.map O.d).zip vs)).cons _)).symm
      have s3 := ih (by simpa using hl) s2
      refine s3.perm ?_
      show ((xs.map O.d).zip vs ++ ((xs.map O.d).zip vs ++ ((O.d x, v) :: (O.d x, v) :: l))).Perm ((O.d x, v) :: ((xs.map O.d).zip vs ++ ((O.d x, v) :: ((xs.map O.d).zip vs ++ l))))
      have p1 : ((xs.map O.d).zip vs ++ ((O.d x, v) :: (O.d x, v) :: l)).Perm ((O.d x, v) :: (O.d x, v) :: ((xs.map O.d).zip vs ++ l)) := (List.perm_middle (l₁ := (xs.map O.d).zip vs)).trans ((List.perm_middle (l₁ := (xs.map O.d).zip vs)).cons _)
      have p2 := p1.append_left ((xs.map O.d).zip vs)
      exact p2.trans (List.perm_middle.trans (.refl _))
theorem shal_frz (o : O) : o.shal.frz = o.frz := by
  cases o with
  | d x => rfl
  | tup xs => simp only [O.shal, O.frz, frzL_map, List.map_map]; rfl
  | lst xs => simp only [O.shal, O.frz, frzL_map, List.map_map]; rfl
  | dic ks xs => simp only [O.shal, O.frz, frzL_map, List.map_map]; rfl
  | obj C ns xs => simp only [O.shal, O.frz, frzL_map, List.map_map]; rfl
theorem map_d_frz (os : List O) : (os.map fun o => O.d o.frz) = (O.frzL os).map O.d := by rw [frzL_map, List.map_map]; rfl
/-- the items of a list beside it -/
theorem Sat.kidsL {xs : List D} (s : SatH T B H hs ((o, v) :: l)) (e : o.frz = .lst xs) : ∃ a vs, v = .ref a ∧ SqL T.K H a vs ∧ xs.length = vs.length ∧ SatH T B H hs ((xs.map O.d).zip vs ++ (o.shal, v) :: l) := by
  cases o with
  | d x =>
    have e : x = .lst xs := e
    subst e
    exact s.lstKids
  | lst os =>
    have e : D.lst (O.frzL os) = .lst xs := e
    injection e with e
    subst e
    obtain ⟨a, vs, rfl, eh, hl, s1⟩ := s.openL
    have s2 := Sat.freezeL hl s1
    rw [map_d_frz] at s2
    have hl2 : (O.frzL os).length = vs.length := by rw [frzL_len]; exact hl
    have s3 := Sat.dupL hl2 s2
    refine ⟨a, vs, rfl, SqL.of eh, hl2, ?_⟩
    have s4 := (s3.perm (List.perm_append_comm (l₁ := ((O.frzL os).map O.d).zip vs) (l₂ := ((O.frzL os).map O.d).zip vs ++ l)))
    rw [List.append_assoc] at s4
    have s5 := s4.closeL (l := l ++ ((O.frzL os).map O.d).zip vs) eh (by simpa using hl2)
    rw [show O.shal (.lst os) = .lst ((O.frzL os).map O.d) by rw [O.shal, map_d_frz]]
    exact s5.perm (by
      have : ((O.lst ((O.frzL os).map O.d), V.ref a) :: (l ++ ((O.frzL os).map O.d).zip vs)).Perm (((O.lst ((O.frzL os).map O.d), V.ref a) :: l) ++ ((O.frzL os).map O.d).zip vs) := .refl _
      exact this.trans List.perm_append_comm)
  | tup xs => cases e
  | dic ks xs => cases e
  | obj C ns xs => cases e
theorem Sat.kidsT {xs : List D} (s : SatH T B H hs ((o, v) :: l)) (e : o.frz = .tup xs) : ∃ a vs, v = .ref a ∧ SqT T.K H a vs ∧ xs.length = vs.length ∧ SatH T B H hs ((xs.map O.d).zip vs ++ (o.shal, v) :: l) := by
  cases o with
  | d x =>
    have e : x = .tup xs := e
    subst e
    exact s.tupKids
  | tup os =>
    have e : D.tup (O.frzL os) = .tup xs := e
    injection e with e
    subst e
    obtain ⟨a, vs, rfl, eh, hl, s1⟩ := s.openT
    have s2 := Sat.freezeL hl s1
    rw [map_d_frz] at s2
    have hl2 : (O.frzL os).length = vs.length := by rw [frzL_len]; exact hl
    have s3 := Sat.dupL hl2 s2
    refine ⟨a, vs, rfl, SqT.of eh, hl2, ?_⟩
    have s4 := (s3.perm (List.perm_append_comm (l₁ := ((O.frzL os).map O.d).zip vs) (l₂ := ((O.frzL os).map O.d).zip vs ++ l)))
    rw [List.append_assoc] at s4
    have s5 := s4.closeT (l := l ++ ((O.frzL os).map O.d).zip vs) eh (by simpa using hl2)
    rw [show O.shal (.tup os) = .tup ((O.frzL os).map O.d) by rw [O.shal, map_d_frz]]
    exact s5.perm (by
      have : ((O.tup ((O.frzL os).map O.d), V.ref a) :: (l ++ ((O.frzL os).map O.d).zip vs)).Perm (((O.tup ((O.frzL os).map O.d), V.ref a) :: l) ++ ((O.frzL os).map O.d).zip vs) := .refl _
      exact this.trans List.perm_append_comm)
  | lst xs => cases e
  | dic ks xs => cases e
  | obj C ns xs => cases e
/-- a tuple beside itself, frozen -/
theorem Sat.dupT {xs : List D} (s : SatH T B H hs ((o, v) :: l)) (e : o.frz = .tup xs) : SatH T B H hs ((.d (.tup xs), v) :: (o.shal, v) :: l) := by
  cases o with
  | d x =>
    have e : x = .tup xs := e
    subst e
    exact s.dup
  | tup os =>
    have e : D.tup (O.frzL os) = .tup xs := e
    injection e with e
    subst e
    obtain ⟨a, vs, rfl, eh, hl, s1⟩ := s.openT
    have s2 := Sat.freezeL hl s1
    rw [map_d_frz] at s2
    have hl2 : (O.frzL os).length = vs.length := by rw [frzL_len]; exact hl
    have s3 := Sat.dupL hl2 s2
    have s4 := (s3.perm (List.perm_append_comm (l₁ := ((O.frzL os).map O.d).zip vs) (l₂ := ((O.frzL os).map O.d).zip vs ++ l)))
    rw [List.append_assoc] at s4
    have s5 := s4.closeT (l := l ++ ((O.frzL os).map O.d).zip vs) eh (by simpa using hl2)
    rw [show O.shal (.tup os) = .tup ((O.frzL os).map O.d) by rw [O.shal, map_d_frz]]
    have s6 : SatH T B H hs (((O.frzL os).map O.d).zip vs ++ ((O.tup ((O.frzL os).map O.d), V.ref a) :: l)) := s5.perm (by
      have : ((O.tup ((O.frzL os).map O.d), V.ref a) :: (l ++ ((O.frzL os).map O.d).zip vs)).Perm (((O.tup ((O.frzL os).map O.d), V.ref a) :: l) ++ ((O.frzL os).map O.d).zip vs) := .refl _
      exact this.trans List.perm_append_comm)
    exact s6.closeTd eh hl2
  | lst xs => cases e
  | dic ks xs => cases e
  | obj C ns xs => cases e
/-- a new list, a new tuple -/
theorem Sat.newL {os : List O} {vs : List V} {p : Addr} (s : Sat T B H (os.zip vs ++ l)) (hl : os.length = vs.length) (n : H p = none) : Sat T B (upd H p (.lst vs)) ((.lst os, .ref p) :: l) := (s.alloc n).closeL upd_same hl
theorem Sat.newT {os : List O} {vs : List V} {p : Addr} (s : Sat T B H (os.zip vs ++ l)) (hl : os.length = vs.length) (n : H p = none) : Sat T B (upd H p (.tup vs)) ((.tup os, .ref p) :: l) := (s.alloc (ob := .tup vs) n).letgo.closeT upd_same hl
theorem Sat.newTd {xs : List D} {vs : List V} {p : Addr} (s : Sat T B H ((xs.map O.d).zip vs ++ l)) (hl : xs.length = vs.length) (n : H p = none) : Sat T B (upd H p (.tup vs)) ((.d (.tup xs), .ref p) :: l) := (s.alloc (ob := .tup vs) n).letgo.closeTd upd_same hl
end
section
variable {T : Tab} {B : Base} {X : Cx}
/-! ### arithmetic -/
/-- xs + ys of lists, as they may be read -/
theorem op_catS : OpR X (binaryOp .Add) (fun x y H Q => ∃ l b xs zs, x = .ref l ∧ y = .ref b ∧ SqL X.K H l xs ∧ SqL X.K H b zs ∧ xs.length + zs.length ≤ sizeLine ∧ ∀ p, H p = none → Q (.ref p) (upd H p (.lst (xs ++ zs)))) := by
  intro pins s σ H x y v u Q I rx ry h
  obtain ⟨l, b, xs, zs, rfl, rfl, hH, hB, hz, q⟩ := h
  cases rx
  cases ry
  obtain ⟨its, r, pl, _⟩ := I.list hH
  obtain ⟨its2, r2, pl2, _⟩ := I.list hB
  have hl := r.length
  have hl2 := r2.length
  obtain ⟨⟨cls, dd, data, sl⟩, n, ho, hc, hd0, hd⟩ := pl
  obtain ⟨⟨cls2, dd2, data2, sl2⟩, n2, ho2, hc2, hd02, hd2⟩ := pl2
  simp only at hc hd hc2 hd2 hd0 hd02
  subst hc hd hc2 hd2 hd0 hd02
  have e : its.toArray ++ its2.toArray = (its ++ its2).toArray := by simp
  refine concat_meets ⟨_, ho, rfl⟩ ⟨_, ho2, rfl⟩ noFill_list_add seq_list_add PySem.F.slot_list_add PySem.F.entry_list_add (PySem.F.args_list_add_2 _ _) (list_addW l b its.toArray its2.toArray n n2 none none sl sl2 (by simp; omega)) ⟨ho, ho2, ?_⟩
  rw [e]
  exact ⟨.ref _, _, I.lnew (t' := s.toks) (r.append r2) (by rw [List.length_append]; omega), rfl, q _ I.fresh⟩
def biOp : Bi → Operator
  | .add => .Add | .sub => .Sub | .mul => .Mult | .fdiv => .FloorDiv | .mod => .Mod | .pow => .Pow
theorem zip_append {xs ys : List D} {vs ws : List V} (h : xs.length = vs.length) : ((xs ++ ys).map O.d).zip (vs ++ ws) = (xs.map O.d).zip vs ++ (ys.map O.d).zip ws := by
  rw [List.map_append, List.zip_append (by simpa using h)]
theorem opBi (hK : X.K = T.K) (k : Bi) : OpR X (binaryOp (biOp k)) (fun x y H Q => relN T B (biD k) true [x, y] H Q) := by
  intro pins s σ H x y v u Q I rx ry h
  obtain ⟨o, p, l, r, sa, e, q⟩ := rel2 h
  have d1 := sa.read
  have d2 := sa.read2
  cases ea : o.frz with
  | int i =>
    rw [ea] at d1 e
    have d1 : x = .int i := d1
    subst d1
    cases eb : p.frz with
    | int j =>
      rw [eb] at d2 e
      have d2 : y = .int j := d2
      subst d2
      have so : o.shal.frz = .int i := by rw [shal_frz, ea]
      have fin : Sat T B H ((if true = true then o.shal else o, V.int i) :: (if true = true then p.shal else p, V.int j) :: l) := by
        have oc : o.shal = o := by cases o <;> first | rfl | cases ea
        have pc : p.shal = p := by cases p <;> first | rfl | cases eb
        rw [if_pos rfl, if_pos rfl, oc, pc]
        exact sa
      cases k with
      | add =>
        injection e with e; subst e
        exact op_add pins s σ H _ _ v u Q I rx ry ⟨i, j, rfl, rfl, q _ _ fin.int⟩
      | sub =>
        injection e with e; subst e
        exact op_sub pins s σ H _ _ v u Q I rx ry ⟨i, j, rfl, rfl, q _ _ fin.int⟩
      | mul =>
        have e : (if (-(2 ^ 64) < i ∧ i < 2 ^ 64) ∨ (-(2 ^ 64) < j ∧ j < 2 ^ 64) then some (O.d (.int (i * j))) else none) = some r := e
        split at e
        · rename_i hc
          injection e with e; subst e
          exact op_mul pins s σ H _ _ v u Q I rx ry ⟨i, j, rfl, rfl, hc, q _ _ fin.int⟩
        · cases e
      | fdiv =>
        have e : (if 0 < j ∧ j < 1073741824 then some (O.d (.int (i / j))) else none) = some r := e
        split at e
        · rename_i hc
          injection e with e; subst e
          exact op_fdiv pins s σ H _ _ v u Q I rx ry ⟨i, j, rfl, rfl, hc, q _ _ fin.int⟩
        · cases e
      | mod =>
        have e : (if 0 < j then some (O.d (.int (i % j))) else none) = some r := e
        split at e
        · rename_i hc
          injection e with e; subst e
          exact op_mod pins s σ H _ _ v u Q I rx ry ⟨i, j, rfl, rfl, hc, q _ _ fin.int⟩
        · cases e
      | pow =>
        have e : (if 0 ≤ j ∧ j ≤ 1000000 ∧ i.natAbs < 2 ^ 64 then some (O.d (.int (i ^ j.toNat))) else none) = some r := e
        split at e
        · rename_i hc
          injection e with e; subst e
          exact op_pow pins s σ H _ _ v u Q I rx ry ⟨i, j, rfl, rfl, hc, q _ _ fin.int⟩
        · cases e
    | _ => rw [eb] at e; cases k <;> cases e
  | str i =>
    rw [ea] at d1 e
    have d1 : x = .str i := d1
    subst d1
    cases eb : p.frz with
    | str j =>
      rw [eb] at d2 e
      have d2 : y = .str j := d2
      subst d2
      have oc : o.shal = o := by cases o <;> first | rfl | cases ea
      have pc : p.shal = p := by cases p <;> first | rfl | cases eb
      rw [if_pos rfl, if_pos rfl, oc, pc] at q
      cases k with
      | add =>
        have e : (if i.length + j.length ≤ sizeLine then some (O.d (.str (i ++ j))) else none) = some r := e
        split at e
        · rename_i hc
          injection e with e; subst e
          exact op_add_str pins s σ H _ _ v u Q I rx ry ⟨i, j, rfl, rfl, hc, q _ _ sa.str⟩
        · cases e
      | _ => cases e
    | _ => rw [eb] at e; cases k <;> cases e
  | lst xs =>
    rw [ea] at e
    cases eb : p.frz with
    | lst ys =>
      rw [eb] at e
      cases k with
      | add =>
        have e : (if xs.length + ys.length ≤ sizeLine then some (O.lst ((xs ++ ys).map .d)) else none) = some r := e
        split at e
        · rename_i hc
          injection e with e; subst e
          obtain ⟨a, vs, rfl, ha, hl, s1⟩ := Sat.kidsL sa ea
          have s2 : Sat T B H ((p, y) :: ((xs.map O.d).zip vs ++ (o.shal, V.ref a) :: l)) := s1.perm (by
            have p1 : ((xs.map O.d).zip vs ++ (o.shal, V.ref a) :: (p, y) :: l).Perm ((xs.map O.d).zip vs ++ (p, y) :: (o.shal, V.ref a) :: l) := (List.Perm.swap _ _ _).append_left _
            exact p1.trans List.perm_middle)
          obtain ⟨b, ws, rfl, hb, hl2, s3⟩ := Sat.kidsL s2 eb
          have s4 : Sat T B H (((xs ++ ys).map O.d).zip (vs ++ ws) ++ ((o.shal, V.ref a) :: (p.shal, V.ref b) :: l)) := s3.perm (by
            rw [zip_append hl, List.append_assoc]
            have p1 : ((ys.map O.d).zip ws ++ (p.shal, V.ref b) :: ((xs.map O.d).zip vs ++ (o.shal, V.ref a) :: l)).Perm ((ys.map O.d).zip ws ++ ((xs.map O.d).zip vs ++ (o.shal, V.ref a) :: (p.shal, V.ref b) :: l)) := by
              refine List.Perm.append_left _ ?_
              have : ((p.shal, V.ref b) :: ((xs.map O.d).zip vs ++ (o.shal, V.ref a) :: l)).Perm ((xs.map O.d).zip vs ++ (p.shal, V.ref b) :: (o.shal, V.ref a) :: l) := List.perm_middle.symm
              exact this.trans ((List.Perm.swap _ _ _).append_left _)
            refine p1.trans ?_
            rw [← List.append_assoc, ← List.append_assoc]
            exact List.perm_append_comm.append_right _)
          refine op_catS pins s σ H _ _ v u Q I rx ry ⟨a, b, vs, ws, rfl, rfl, by rw [hK]; exact ha, by rw [hK]; exact hb, by omega, fun p' hp => q _ _ ?_⟩
          exact Sat.newL (os := (xs ++ ys).map O.d) (vs := vs ++ ws) s4 (by simp [hl, hl2]) hp
        · cases e
      | _ => cases e
    | _ => rw [eb] at e; cases k <;> cases e
  | tup xs =>
    rw [ea] at e
    cases eb : p.frz with
    | tup ys =>
      rw [eb] at e
      cases k with
      | add =>
        have e : (if xs.length + ys.length ≤ sizeLine then some (O.d (.tup (xs ++ ys))) else none) = some r := e
        split at e
        · rename_i hc
          injection e with e; subst e
          obtain ⟨a, vs, rfl, ha, hl, s1⟩ := Sat.kidsT sa ea
          have s2 : Sat T B H ((p, y) :: ((xs.map O.d).zip vs ++ (o.shal, V.ref a) :: l)) := s1.perm (by
            have p1 : ((xs.map O.d).zip vs ++ (o.shal, V.ref a) :: (p, y) :: l).Perm ((xs.map O.d).zip vs ++ (p, y) :: (o.shal, V.ref a) :: l) := (List.Perm.swap _ _ _).append_left _
            exact p1.trans List.perm_middle)
          obtain ⟨b, ws, rfl, hb, hl2, s3⟩ := Sat.kidsT s2 eb
          have s4 : Sat T B H (((xs ++ ys).map O.d).zip (vs ++ ws) ++ ((o.shal, V.ref a) :: (p.shal, V.ref b) :: l)) := s3.perm (by
            rw [zip_append hl, List.append_assoc]
            have p1 : ((ys.map O.d).zip ws ++ (p.shal, V.ref b) :: ((xs.map O.d).zip vs ++ (o.shal, V.ref a) :: l)).Perm ((ys.map O.d).zip ws ++ ((xs.map O.d).zip vs ++ (o.shal, V.ref a) :: (p.shal, V.ref b) :: l)) := by
              refine List.Perm.append_left _ ?_
              have : ((p.shal, V.ref b) :: ((xs.map O.d).zip vs ++ (o.shal, V.ref a) :: l)).Perm ((xs.map O.d).zip vs ++ (p.shal, V.ref b) :: (o.shal, V.ref a) :: l) := List.perm_middle.symm
              exact this.trans ((List.Perm.swap _ _ _).append_left _)
            refine p1.trans ?_
            rw [← List.append_assoc, ← List.append_assoc]
            exact List.perm_append_comm.append_right _)
          refine op_catA pins s σ H _ _ v u Q I rx ry ⟨a, b, vs, ws, rfl, rfl, by rw [hK]; exact ha, by rw [hK]; exact hb, by omega, fun h0 => ?_, fun h1 h2 => ?_, fun _ _ p' hp => q _ _ ?_⟩
          · have hx : xs = [] := List.eq_nil_of_length_eq_zero (by rw [hl, h0]; rfl)
            subst hx
            refine q _ _ ?_
            have t1 : Sat T B H ((p, V.ref b) :: (o, V.ref a) :: l) := sa.swap
            have t2 := Sat.dupT t1 eb
            have t3 : Sat T B H ((o, V.ref a) :: (.d (.tup ys), V.ref b) :: (p.shal, V.ref b) :: l) := t2.perm (((List.Perm.swap _ _ _).cons _).trans (.swap _ _ _))
            have t4 := (Sat.dupT t3 ea).drop1
            have t5 : Sat T B H ((O.d (.tup ys), V.ref b) :: (o.shal, V.ref a) :: (p.shal, V.ref b) :: l) := ?_
            · exact t5
            · have t6 := Sat.dupT t3 ea
              exact t6.drop1.swap
          · have hy : ys = [] := List.eq_nil_of_length_eq_zero (by rw [hl2, h2]; rfl)
            subst hy
            refine q _ _ ?_
            have t1 : Sat T B H ((p, V.ref b) :: (o, V.ref a) :: l) := sa.swap
            have t2 := (Sat.dupT t1 eb).drop1
            have t3 : Sat T B H ((o, V.ref a) :: (p.shal, V.ref b) :: l) := t2.swap
            have t4 := Sat.dupT t3 ea
            rw [List.append_nil]
            exact t4
          · exact Sat.newTd (xs := xs ++ ys) (vs := vs ++ ws) s4 (by simp [hl, hl2]) hp
        · cases e
      | _ => cases e
    | _ => rw [eb] at e; cases k <;> cases e
  | _ => rw [ea] at e; cases k <;> cases e
theorem opNeg : UnR X (unaryOp .USub) (fun x H Q => relN T B (unD .neg) false [x] H Q) := by
  intro pins s σ H x v Q I rx h
  obtain ⟨o, l, r, sa, e, q⟩ := rel1 h
  have d1 := sa.read
  cases ea : o.frz with
  | int i =>
    rw [ea] at d1 e
    have d1 : x = .int i := d1
    subst d1
    injection e with e; subst e
    exact un_neg pins s σ H _ v Q I rx ⟨i, rfl, q _ _ sa.int⟩
  | _ => rw [ea] at e; cases e
end
end PV
/-! PV7: dicts looked at; comparisons -/
namespace PV
open PySem PySem.Spec PyProof.Rows L2
/-! ### dicts: an empty one is of either kind -/
section
variable {X : Cx} {pins : List (Addr × Obj)} {σ : L2.St} {H : Hp} {s : Shared} {a b : Addr} {y d : V} {u r : Value} {o : Option V} {A : Around} {E : Value → Shared → Prop}
theorem pairs_nil {P : Program} {w : World} {es : List DictEntry} (h : Pairs (mixKind P w) es []) : es = [] := by cases h; rfl
theorem emptyH {P : Program} {w : World} {h : Heap} (e : h.DictOf (mixKind P w) a []) : h.DictOfH (tupleKind (mixKind P w)) a [] := by
  obtain ⟨o, es, ep, h1, h2, h3, h4, h5, h6⟩ := e
  exact ⟨o, es, ep, h1, h2, h3, by rw [pairs_nil h5]; rfl, fun x hx => by simp at hx, List.nodup_nil⟩
theorem emptyK {P : Program} {w : World} {h : Heap} (e : h.DictOfH (tupleKind (mixKind P w)) a []) : h.DictOf (mixKind P w) a [] := by
  obtain ⟨o, es, ep, h1, h2, h3, h4, h5, h6⟩ := e
  have : es = #[] := by
    have : es.toList = [] := h4
    simpa using this
  subst this
  exact ⟨o, #[], ep, h1, h2, h3, fun x hx => by simp at hx, .nil, List.nodup_nil⟩
theorem kv_nil {vs : List (Key × Value)} (h : KV ([] : List (Key × V)) vs) : vs = [] := by
  unfold KV at h; cases h; rfl
theorem kt_nil {vs : List (List Key × Addr × Value)} (h : KT H [] vs) : vs = [] := by cases h; rfl
theorem dk_emptyH (I : Inv X pins σ H s) (e : Rd H a (.dK [])) : s.heap.DictOfH (tupleKind (mixKind X.prog X.w)) a [] ∧ (a == sysModules) = false := by
  obtain ⟨_, hd, vs, rel, dd⟩ := dk_rd I.hok e
  rw [kv_nil rel] at dd
  exact ⟨emptyH dd, hd⟩
theorem dt_emptyK (I : Inv X pins σ H s) (e : Rd H a (.dT [])) : s.heap.DictOf (mixKind X.prog X.w) a [] ∧ (a == sysModules) = false := by
  obtain ⟨_, hd, vs, rel, dd⟩ := dt_rd I.hok e
  rw [kt_nil rel] at dd
  exact ⟨emptyK dd, hd⟩
/-- what the dict at a holds at the key y, an empty one of either kind -/
def DGe (H : Hp) (a : Addr) (y : V) (r : Option V) : Prop :=
  DGet H a y r ∨ (r = none ∧ Rd H a (.dK []) ∧ ∃ k b, y = .ref b ∧ H b = some (.tup (List.map kV k))) ∨ (r = none ∧ Rd H a (.dT []) ∧ ∃ k, y = kV k)
theorem dg_in {Q : Value → Shared → Prop} (hu : A.units + 1 < cLine) (I : Inv X pins σ H s) (g : DGe H a y o) (ry : RelV y u) (h : ∀ s', Inv X pins σ H s' → Q (.bool o.isSome) s') :
    wpAny (model X.prog X.w) A (compareOp .In u (.ref a)) Q E s := by
  rcases g with g | ⟨rfl, e, k, b, rfl, eb⟩ | ⟨rfl, e, k, rfl⟩
  · exact d_in hu I g ry h
  · cases (show u = Value.ref b from ry)
    obtain ⟨dd, hd⟩ := dk_emptyH I e
    exact wpAny_in_heap (tupleKind_room_in1 hu) (key_of I.hok eb) hd dd (h _ (I.tok _))
  · obtain ⟨dd, hd⟩ := dt_emptyK I e
    exact wpAny_in_of (kV_is ry) hd dd.mapOf (h _ (I.tok _))
theorem dg_notIn {Q : Value → Shared → Prop} (hu : A.units + 1 < cLine) (I : Inv X pins σ H s) (g : DGe H a y o) (ry : RelV y u) (h : ∀ s', Inv X pins σ H s' → Q (.bool (!o.isSome)) s') :
    wpAny (model X.prog X.w) A (compareOp .NotIn u (.ref a)) Q E s := by
  rcases g with g | ⟨rfl, e, k, b, rfl, eb⟩ | ⟨rfl, e, k, rfl⟩
  · exact d_notIn hu I g ry h
  · cases (show u = Value.ref b from ry)
    obtain ⟨dd, hd⟩ := dk_emptyH I e
    exact wpAny_notIn_heap (tupleKind_room_in1 hu) (key_of I.hok eb) hd dd (h _ (I.tok _))
  · obtain ⟨dd, hd⟩ := dt_emptyK I e
    exact wpAny_notIn_of (kV_is ry) hd dd.mapOf (h _ (I.tok _))
theorem dg_get1 {Q : Value → Shared → Prop} (hu : A.units + 1 < cLine) (I : Inv X pins σ H s) (g : DGe H a y o) (ry : RelV y u) (h : ∀ w' s', Inv X pins σ H s' → RelV (o.getD .non) w' → Q w' s') :
    wpAny (model X.prog X.w) A (call (.builtin "dict.get") [.ref a, u]) Q E s := by
  rcases g with g | ⟨rfl, e, k, b, rfl, eb⟩ | ⟨rfl, e, k, rfl⟩
  · exact d_get1 hu I g ry h
  · cases (show u = Value.ref b from ry)
    obtain ⟨dd, hd⟩ := dk_emptyH I e
    exact call_meetsIn PySem.F.slot_dict_get dd.typeIs PySem.F.entry_dict_get (PySem.F.args_dict_get_2 _ _) (meetsH_dict_get (tupleKind (mixKind X.prog X.w)) a b hd) ⟨tupleKind_room_in1 hu, k, [], key_of I.hok eb, dd, h _ _ (I.tok _) rfl⟩
  · obtain ⟨dd, hd⟩ := dt_emptyK I e
    exact call_meetsIn PySem.F.slot_dict_get dd.typeIs PySem.F.entry_dict_get (PySem.F.args_dict_get_2 _ _) (meets_dict_get (mixKind X.prog X.w) a (kV_is ry) hd) ⟨_, dd.mapOf, h _ _ (I.tok _) rfl⟩
theorem dg_get2 {Q : Value → Shared → Prop} (hu : A.units + 1 < cLine) (I : Inv X pins σ H s) (g : DGe H a y o) (ry : RelV y u) (rd : RelV d r) (h : ∀ w' s', Inv X pins σ H s' → RelV (o.getD d) w' → Q w' s') :
    wpAny (model X.prog X.w) A (call (.builtin "dict.get") [.ref a, u, r]) Q E s := by
  rcases g with g | ⟨rfl, e, k, b, rfl, eb⟩ | ⟨rfl, e, k, rfl⟩
  · exact d_get2 hu I g ry rd h
  · cases (show u = Value.ref b from ry)
    obtain ⟨dd, hd⟩ := dk_emptyH I e
    exact call_meetsIn PySem.F.slot_dict_get dd.typeIs PySem.F.entry_dict_get (PySem.F.args_dict_get_3 _ _ _) (meetsH_dict_get_default (tupleKind (mixKind X.prog X.w)) a b hd r) ⟨tupleKind_room_in1 hu, k, [], key_of I.hok eb, dd, h _ _ (I.tok _) rd⟩
  · obtain ⟨dd, hd⟩ := dt_emptyK I e
    exact call_meetsIn PySem.F.slot_dict_get dd.typeIs PySem.F.entry_dict_get (PySem.F.args_dict_get_3 _ _ _) (meets_dict_get_default (mixKind X.prog X.w) a (kV_is ry) hd r) ⟨_, dd.mapOf, h _ _ (I.tok _) rd⟩
/-- an empty dict becomes one of the other kind -/
theorem Inv.toT (I : Inv X pins σ H s) (e : H a = some (.dK [])) : Inv X pins σ (upd H a (.dT [])) s := by
  obtain ⟨z, hd, vs, rel, dd⟩ := dk_of I.hok e
  rw [kv_nil rel] at dd
  obtain ⟨o, es, ep, h1, h2, h3, h4, h5, h6⟩ := emptyH dd
  exact I.write (h' := s.heap) (t' := s.toks) (x := a) (e := a) (o := .dT []) (by rw [e]; trivial) (.inl rfl) (fun _ _ _ z => z) ⟨o, h1⟩ ⟨Nat.zero_le _, hd, [], .nil, o, es, ep, h1, h2, h3, h4, List.nodup_nil⟩
theorem Inv.toK (I : Inv X pins σ H s) (e : H a = some (.dT [])) : Inv X pins σ (upd H a (.dK [])) s := by
  obtain ⟨z, hd, vs, rel, dd⟩ := dt_of I.hok e
  rw [kt_nil rel] at dd
  have dd' := emptyK dd
  obtain ⟨o, es, ep, h1, _⟩ := id dd'
  exact I.write (h' := s.heap) (t' := s.toks) (x := a) (e := a) (o := .dK []) (by rw [e]; trivial) (.inl rfl) (fun _ _ _ z => z) ⟨o, h1⟩ ⟨Nat.zero_le _, hd, [], .nil, dd'⟩
end
section
variable {T : Tab} {B : Base} {H H' : Hp} {l : List It1} {o p : O} {v : V} {x : D} {a : Addr} {hs : List Addr} {own : Addr → Prop} {h : Hp}
theorem key_val {k : D} {kk : Key} (e : keyOf k = some kk) (d : Dr T own h k v) : v = kV kk := by
  cases k with
  | int i => injection e with e; subst e; exact d
  | str i => injection e with e; subst e; exact d
  | _ => cases e
theorem keys_vals : ∀ {ks : List D} {js : List Key} {vs : List V}, keysOf ks = some js → DrL T own h ks vs → vs = js.map kV
  | [], js, vs, e, d => by
    have d : vs = [] := d
    injection e with e
    subst e d; rfl
  | k :: ks, js, vs, e, d => by
    obtain ⟨v, r, rfl, d1, d2⟩ := d
    unfold keysOf at e
    cases e1 : keyOf k with
    | none => rw [e1] at e; cases e
    | some kk =>
      cases e2 : keysOf ks with
      | none => rw [e1, e2] at e; cases e
      | some r' =>
        rw [e1, e2] at e
        injection e with e
        subst e
        rw [key_val e1 d1, keys_vals e2 d2]; rfl
theorem tkey_val {k : D} {kk : List Key} (e : tkeyOf k = some kk) (s : SatH T B H hs l) (d : Dr T own (vw B.Z H) k v) : ∃ b, v = .ref b ∧ H b = some (.tup (kk.map kV)) := by
  cases k with
  | tup ds =>
    have e : (if ds.length = 2 ∨ ds.length = 3 then keysOf ds else none) = some kk := e
    by_cases hc : ds.length = 2 ∨ ds.length = 3
    · rw [if_pos hc] at e
      obtain ⟨b, vs, rfl, h1, h2⟩ := d
      rcases tupAt_vw s h1 with h1 | h1
      · exact ⟨b, rfl, by rw [← keys_vals e h2]; exact h1⟩
      · exact (h1.1 hc).elim
    · rw [if_neg hc] at e; cases e
  | _ => cases e
theorem tkey_no {k : D} {kk : Key} (e : keyOf k = some kk) : tkeyOf k = none := by
  cases k <;> first | rfl | cases e
theorem key_no {k : D} {kk : List Key} (e : tkeyOf k = some kk) : keyOf k = none := by
  cases k <;> first | rfl | cases e
theorem look_k {k : D} {kk : Key} (ek : keyOf k = some kk) : ∀ {ks ds : List D} {js : List Key} {ws : List V}, keysOf ks = some js → js.length = ws.length → ds.length = ws.length →
    (∃ (n : Nat) (d : D) (w : V), lookD k ks ds = some d ∧ valV (js.zip ws) kk = some w ∧ ds[n]? = some d ∧ ws[n]? = some w) ∨ (lookD k ks ds = none ∧ valV (js.zip ws) kk = none)
  | [], ds, js, ws, e, hl, d => by
    injection e with e; subst e
    exact .inr ⟨by cases ds <;> rfl, rfl⟩
  | j :: ks, ds, js, ws, e, hl, d => by
    unfold keysOf at e
    cases e1 : keyOf j with
    | none => rw [e1] at e; cases e
    | some jj =>
      cases e2 : keysOf ks with
      | none => rw [e1, e2] at e; cases e
      | some r' =>
        rw [e1, e2] at e
        injection e with e
        subst e
        match ds, ws, hl, d with
        | [], [], hl, _ => simp at hl
        | d0 :: ds, w :: r, hl, d =>
          unfold lookD
          by_cases hc : jj = kk
          · subst hc
            rw [if_pos ⟨by rw [e1, ek], by rw [tkey_no e1, tkey_no ek]⟩]
            exact .inl ⟨0, d0, w, rfl, valV_pos rfl, rfl, rfl⟩
          · rw [if_neg (fun z => hc (by have := z.1; rw [e1, ek] at this; exact Option.some.inj this))]
            rw [List.zip_cons_cons, valV_neg hc]
            rcases look_k ek e2 (by simpa using hl) (by simpa using d) with ⟨n, d', w', h1, h2, h3, h4⟩ | h
            · exact .inl ⟨n + 1, d', w', h1, h2, by simpa using h3, by simpa using h4⟩
            · exact .inr h
theorem look_t {k : D} {kk : List Key} (ek : tkeyOf k = some kk) : ∀ {ks ds : List D} {js : List (List Key)} {ws : List V}, tkeysOf ks = some js → js.length = ws.length → ds.length = ws.length →
    (∃ (n : Nat) (d : D) (w : V), lookD k ks ds = some d ∧ valV (js.zip ws) kk = some w ∧ ds[n]? = some d ∧ ws[n]? = some w) ∨ (lookD k ks ds = none ∧ valV (js.zip ws) kk = none)
  | [], ds, js, ws, e, hl, d => by
    injection e with e; subst e
    exact .inr ⟨by cases ds <;> rfl, rfl⟩
  | j :: ks, ds, js, ws, e, hl, d => by
    unfold tkeysOf at e
    cases e1 : tkeyOf j with
    | none => rw [e1] at e; cases e
    | some jj =>
      cases e2 : tkeysOf ks with
      | none => rw [e1, e2] at e; cases e
      | some r' =>
        rw [e1, e2] at e
        injection e with e
        subst e
        match ds, ws, hl, d with
        | [], [], hl, _ => simp at hl
        | d0 :: ds, w :: r, hl, d =>
          unfold lookD
          by_cases hc : jj = kk
          · subst hc
            rw [if_pos ⟨by rw [key_no e1, key_no ek], by rw [e1, ek]⟩]
            exact .inl ⟨0, d0, w, rfl, valV_pos rfl, rfl, rfl⟩
          · rw [if_neg (fun z => hc (by have := z.2; rw [e1, ek] at this; exact Option.some.inj this))]
            rw [List.zip_cons_cons, valV_neg hc]
            rcases look_t ek e2 (by simpa using hl) (by simpa using d) with ⟨n, d', w', h1, h2, h3, h4⟩ | h
            · exact .inl ⟨n + 1, d', w', h1, h2, by simpa using h3, by simpa using h4⟩
            · exact .inr h
theorem keys_all : ∀ {ks : List D} {js : List Key}, keysOf ks = some js → ∀ j ∈ ks, (keyOf j).isSome = true
  | k :: ks, js, e, j, hj => by
    unfold keysOf at e
    cases e1 : keyOf k with
    | none => rw [e1] at e; cases e
    | some kk =>
      cases e2 : keysOf ks with
      | none => rw [e1, e2] at e; cases e
      | some r' =>
        rcases List.mem_cons.mp hj with rfl | hj
        · rw [e1]; rfl
        · exact keys_all e2 j hj
theorem tkeys_all : ∀ {ks : List D} {js : List (List Key)}, tkeysOf ks = some js → ∀ j ∈ ks, (tkeyOf j).isSome = true
  | k :: ks, js, e, j, hj => by
    unfold tkeysOf at e
    cases e1 : tkeyOf k with
    | none => rw [e1] at e; cases e
    | some kk =>
      cases e2 : tkeysOf ks with
      | none => rw [e1, e2] at e; cases e
      | some r' =>
        rcases List.mem_cons.mp hj with rfl | hj
        · rw [e1]; rfl
        · exact tkeys_all e2 j hj
theorem rd_dK (s : SatH T B H hs l) {u : List (Key × V)} (e : vw B.Z H a = some (.dK u)) : Rd H a (.dK u) := rd_vw s (fun _ _ z => nomatch z) (.inl e)
theorem rd_dT (s : SatH T B H hs l) {u : List (List Key × V)} (e : vw B.Z H a = some (.dT u)) : Rd H a (.dT u) := rd_vw s (fun _ _ z => nomatch z) (.inl e)
/-- a dict of the keys ks, the values ws -/
def DicR (H : Hp) (a : Addr) (ks : List D) (ws : List V) : Prop := (∃ js, keysOf ks = some js ∧ Rd H a (.dK (js.zip ws)) ∧ js.length = ws.length) ∨ (∃ js, tkeysOf ks = some js ∧ Rd H a (.dT (js.zip ws)) ∧ js.length = ws.length)
theorem drDic (s : SatH T B H hs l) {ks ds : List D} (d : Dr T own (vw B.Z H) (.dic ks ds) v) : ∃ a ws, v = .ref a ∧ DicR H a ks ws ∧ DrL T own (vw B.Z H) ds ws := by
  obtain ⟨a, vs, rfl, _, d1, d2⟩ := d
  refine ⟨a, vs, rfl, ?_, d2⟩
  rcases d1 with ⟨js, q1, q2, q3⟩ | ⟨js, q1, q2, q3⟩
  · exact .inl ⟨js, q1, rd_dK s q2, q3⟩
  · exact .inr ⟨js, q1, rd_dT s q2, q3⟩
/-- looking up -/
theorem dic_get (s : SatH T B H hs l) {ks ds : List D} {ws : List V} {k : D} {y : V} (d1 : DicR H a ks ws) (hl : ds.length = ws.length) (dk : Dr T own (vw B.Z H) k y) (hk : kindOk k ks = true) :
    (∃ (n : Nat) (d : D) (w : V), lookD k ks ds = some d ∧ DGet H a y (some w) ∧ ds[n]? = some d ∧ ws[n]? = some w) ∨ (lookD k ks ds = none ∧ DGe H a y none) := by
  unfold kindOk at hk
  rw [Bool.or_eq_true, Bool.and_eq_true, Bool.and_eq_true] at hk
  rcases hk with ⟨hk, ha⟩ | ⟨hk, ha⟩
  · obtain ⟨kk, ek⟩ := Option.isSome_iff_exists.mp hk
    have ey := key_val ek dk
    rcases d1 with ⟨js, q1, rd, q3⟩ | ⟨js, q1, rd, q3⟩
    · rcases look_k ek q1 q3 hl with ⟨n, d, w, e1, e2, e3⟩ | ⟨e1, e2⟩
      · exact .inl ⟨n, d, w, e1, .inl ⟨_, kk, rd, ey, e2.symm⟩, e3⟩
      · exact .inr ⟨e1, .inl (.inl ⟨_, kk, rd, ey, e2.symm⟩)⟩
    · cases ks with
      | nil =>
        injection q1 with q1
        subst q1
        exact .inr ⟨by cases ds <;> rfl, .inr (.inr ⟨rfl, rd, kk, ey⟩)⟩
      | cons j ks =>
        have h1 := tkeys_all q1 j List.mem_cons_self
        have h2 := List.all_eq_true.mp ha j List.mem_cons_self
        obtain ⟨jj, ej⟩ := Option.isSome_iff_exists.mp h2
        rw [tkey_no ej] at h1; cases h1
  · obtain ⟨kk, ek⟩ := Option.isSome_iff_exists.mp hk
    obtain ⟨b, ey, eb⟩ := tkey_val ek s dk
    rcases d1 with ⟨js, q1, rd, q3⟩ | ⟨js, q1, rd, q3⟩
    · cases ks with
      | nil =>
        injection q1 with q1
        subst q1
        exact .inr ⟨by cases ds <;> rfl, .inr (.inl ⟨rfl, rd, kk, b, ey, eb⟩)⟩
      | cons j ks =>
        have h1 := keys_all q1 j List.mem_cons_self
        have h2 := List.all_eq_true.mp ha j List.mem_cons_self
        obtain ⟨jj, ej⟩ := Option.isSome_iff_exists.mp h2
        rw [key_no ej] at h1; cases h1
    · rcases look_t ek q1 q3 hl with ⟨n, d, w, e1, e2, e3⟩ | ⟨e1, e2⟩
      · exact .inl ⟨n, d, w, e1, .inr ⟨_, kk, b, rd, ey, eb, e2.symm⟩, e3⟩
      · exact .inr ⟨e1, .inl (.inr ⟨_, kk, b, rd, ey, eb, e2.symm⟩)⟩
/-! ### what is in dicts and instances -/
theorem SatH.openD {ks : List D} {os : List O} (s : SatH T B H hs ((.dic ks os, v) :: l)) : ∃ a vs, v = .ref a ∧ ((∃ js, keysOf ks = some js ∧ H a = some (.dK (js.zip vs)) ∧ js.length = vs.length) ∨ (∃ js, tkeysOf ks = some js ∧ H a = some (.dT (js.zip vs)) ∧ js.length = vs.length)) ∧ os.length = vs.length ∧ SatH T B H (a :: hs) (os.zip vs ++ l) := by
  obtain ⟨F, ⟨F1, F2, rfl, r1, r2⟩, nd, c⟩ := s.reps
  obtain ⟨a, vs, G, e1, rfl, e2, e3⟩ := r1
  obtain ⟨e4, el⟩ := Reps.ofL e3
  have pm : (hs ++ (a :: G ++ F2)).Perm (a :: hs ++ (G ++ F2)) := by
    have : (hs ++ (a :: (G ++ F2))).Perm (a :: (hs ++ (G ++ F2))) := List.perm_middle
    simpa using this
  have nz : ¬ B.Z a := (c a (pm.mem_iff.mpr List.mem_cons_self)).2.2.1
  rw [vw_free nz] at e2
  refine ⟨a, vs, e1, e2, el, s.lk, s.old, s.oth, s.io, G ++ F2, ?_, pm.nodup_iff.mp nd, fun b hb => c b (pm.mem_iff.mpr hb)⟩
  exact Reps.keep Keep.refl (fun b z => .inl (z.imp id fun z => pm.mem_iff.mpr z)) _ _ (fun _ _ => rfl) (Reps.append e4 r2)
theorem SatH.closeD {ks : List D} {os : List O} {vs : List V} (s : SatH T B H (a :: hs) (os.zip vs ++ l)) (e : (∃ js, keysOf ks = some js ∧ H a = some (.dK (js.zip vs)) ∧ js.length = vs.length) ∨ (∃ js, tkeysOf ks = some js ∧ H a = some (.dT (js.zip vs)) ∧ js.length = vs.length)) (hl : os.length = vs.length) : SatH T B H hs ((.dic ks os, .ref a) :: l) := by
  obtain ⟨F, r, nd, c⟩ := s.reps
  obtain ⟨G, F2, rfl, r1, r2⟩ := Reps.split r
  have pm : (hs ++ (a :: G ++ F2)).Perm (a :: hs ++ (G ++ F2)) := by
    have : (hs ++ (a :: (G ++ F2))).Perm (a :: (hs ++ (G ++ F2))) := List.perm_middle
    simpa using this
  have nz : ¬ B.Z a := (c a List.mem_cons_self).2.2.1
  have k : ∀ b, (B.G b ∨ b ∈ hs ++ (a :: G ++ F2)) → (B.G b ∨ b ∈ a :: hs ++ (G ++ F2)) ∨ vw B.Z H b = none := fun b z => .inl (z.imp id fun z => pm.mem_iff.mp z)
  refine ⟨s.lk, s.old, s.oth, s.io, a :: G ++ F2, ⟨a :: G, F2, rfl, ⟨a, vs, G, rfl, rfl, by rw [vw_free nz]; exact e, ?_⟩, Reps.keep Keep.refl k _ _ (fun _ _ => rfl) r2⟩, pm.nodup_iff.mpr nd, fun b hb => c b (pm.mem_iff.mp hb)⟩
  exact Or.keepL Keep.refl k _ _ _ (fun _ _ => rfl) (Reps.toL hl r1)
theorem SatH.openO {C : Nat} {ns : List Str} {os : List O} (s : SatH T B H hs ((.obj C ns os, v) :: l)) : ∃ a dx vs, v = .ref a ∧ H a = some (.ins (T.cls C) dx (ns.zip vs)) ∧ ns.length = vs.length ∧ os.length = vs.length ∧ SatH T B H (a :: hs) (os.zip vs ++ l) := by
  obtain ⟨F, ⟨F1, F2, rfl, r1, r2⟩, nd, c⟩ := s.reps
  obtain ⟨a, dx, vs, G, e1, rfl, e2, en, e3⟩ := r1
  obtain ⟨e4, el⟩ := Reps.ofL e3
  have pm : (hs ++ (a :: G ++ F2)).Perm (a :: hs ++ (G ++ F2)) := by
    have : (hs ++ (a :: (G ++ F2))).Perm (a :: (hs ++ (G ++ F2))) := List.perm_middle
    simpa using this
  have nz : ¬ B.Z a := (c a (pm.mem_iff.mpr List.mem_cons_self)).2.2.1
  rw [vw_free nz] at e2
  refine ⟨a, dx, vs, e1, e2, en, el, s.lk, s.old, s.oth, s.io, G ++ F2, ?_, pm.nodup_iff.mp nd, fun b hb => c b (pm.mem_iff.mpr hb)⟩
  exact Reps.keep Keep.refl (fun b z => .inl (z.imp id fun z => pm.mem_iff.mpr z)) _ _ (fun _ _ => rfl) (Reps.append e4 r2)
theorem SatH.closeO {C : Nat} {ns : List Str} {os : List O} {vs : List V} {dx : Addr} (s : SatH T B H (a :: hs) (os.zip vs ++ l)) (e : H a = some (.ins (T.cls C) dx (ns.zip vs))) (hn : ns.length = vs.length) (hl : os.length = vs.length) : SatH T B H hs ((.obj C ns os, .ref a) :: l) := by
  obtain ⟨F, r, nd, c⟩ := s.reps
  obtain ⟨G, F2, rfl, r1, r2⟩ := Reps.split r
  have pm : (hs ++ (a :: G ++ F2)).Perm (a :: hs ++ (G ++ F2)) := by
    have : (hs ++ (a :: (G ++ F2))).Perm (a :: (hs ++ (G ++ F2))) := List.perm_middle
    simpa using this
  have nz : ¬ B.Z a := (c a List.mem_cons_self).2.2.1
  have k : ∀ b, (B.G b ∨ b ∈ hs ++ (a :: G ++ F2)) → (B.G b ∨ b ∈ a :: hs ++ (G ++ F2)) ∨ vw B.Z H b = none := fun b z => .inl (z.imp id fun z => pm.mem_iff.mp z)
  refine ⟨s.lk, s.old, s.oth, s.io, a :: G ++ F2, ⟨a :: G, F2, rfl, ⟨a, dx, vs, G, rfl, rfl, by rw [vw_free nz]; exact e, hn, ?_⟩, Reps.keep Keep.refl k _ _ (fun _ _ => rfl) r2⟩, pm.nodup_iff.mpr nd, fun b hb => c b (pm.mem_iff.mp hb)⟩
  exact Or.keepL Keep.refl k _ _ _ (fun _ _ => rfl) (Reps.toL hl r1)
/-- what stands within, frozen, beside the whole -/
theorem kids_beside {os : List O} {vs : List V} {w : O} (hl : os.length = vs.length) (s1 : SatH T B H (a :: hs) (os.zip vs ++ l)) (cl : ∀ {l : List It1}, SatH T B H (a :: hs) (((O.frzL os).map O.d).zip vs ++ l) → SatH T B H hs ((w, v) :: l)) : SatH T B H hs (((O.frzL os).map O.d).zip vs ++ (w, v) :: l) := by
  have s2 := Sat.freezeL hl s1
  rw [map_d_frz] at s2
  have hl2 : (O.frzL os).length = vs.length := by rw [frzL_len]; exact hl
  have s3 := Sat.dupL hl2 s2
  have s4 := (s3.perm (List.perm_append_comm (l₁ := ((O.frzL os).map O.d).zip vs) (l₂ := ((O.frzL os).map O.d).zip vs ++ l)))
  rw [List.append_assoc] at s4
  have s5 := cl (l := l ++ ((O.frzL os).map O.d).zip vs) s4
  exact s5.perm (by
    have : ((w, v) :: (l ++ ((O.frzL os).map O.d).zip vs)).Perm (((w, v) :: l) ++ ((O.frzL os).map O.d).zip vs) := .refl _
    exact this.trans List.perm_append_comm)
theorem Sat.kidsD {ks xs : List D} (s : SatH T B H hs ((o, v) :: l)) (e : o.frz = .dic ks xs) : ∃ a vs, v = .ref a ∧ DicR H a ks vs ∧ xs.length = vs.length ∧ SatH T B H hs ((xs.map O.d).zip vs ++ (o.shal, v) :: l) := by
  cases o with
  | d x =>
    have e : x = .dic ks xs := e
    subst e
    obtain ⟨F, ⟨F1, F2, rfl, r1, r2⟩, nd, c⟩ := id s.reps
    obtain ⟨e, d⟩ := r1
    have e : F1 = [] := e
    subst e
    obtain ⟨a, vs, e1, e2, e3⟩ := drDic s d
    exact ⟨a, vs, e1, e2, e3.len, s.lk, s.old, s.oth, s.io, F2, Reps.append (F := []) (DrL.reps e3) ⟨[], F2, rfl, ⟨rfl, d⟩, r2⟩, nd, c⟩
  | dic ks' os =>
    have e : D.dic ks' (O.frzL os) = .dic ks xs := e
    injection e with e0 e
    subst e e0
    obtain ⟨a, vs, rfl, eh, hl, s1⟩ := s.openD
    have hl2 : (O.frzL os).length = vs.length := by rw [frzL_len]; exact hl
    refine ⟨a, vs, rfl, ?_, hl2, ?_⟩
    · rcases eh with ⟨js, q1, q2, q3⟩ | ⟨js, q1, q2, q3⟩
      · exact .inl ⟨js, q1, .inl q2, q3⟩
      · exact .inr ⟨js, q1, .inl q2, q3⟩
    · rw [show O.shal (.dic ks' os) = .dic ks' ((O.frzL os).map O.d) by rw [O.shal, map_d_frz]]
      exact kids_beside hl s1 fun z => z.closeD eh (by simpa using hl2)
  | tup xs => cases e
  | lst xs => cases e
  | obj C ns xs => cases e
theorem Sat.kidsO {C : Nat} {ns : List Str} {xs : List D} (s : SatH T B H hs ((o, v) :: l)) (e : o.frz = .obj C ns xs) : ∃ a dx vs, v = .ref a ∧ H a = some (.ins (T.cls C) dx (ns.zip vs)) ∧ ns.length = vs.length ∧ xs.length = vs.length ∧ SatH T B H hs ((xs.map O.d).zip vs ++ (o.shal, v) :: l) := by
  cases o with
  | d x =>
    have e : x = .obj C ns xs := e
    subst e
    obtain ⟨F, ⟨F1, F2, rfl, r1, r2⟩, nd, c⟩ := id s.reps
    obtain ⟨e, a, dx, vs, e1, n1, e2, e3, e4⟩ := r1
    have e : F1 = [] := e
    subst e
    have e2' : H a = some (.ins (T.cls C) dx (ns.zip vs)) := by
      rcases vw_some e2 with e | ⟨z, o, e⟩
      · exact e
      · obtain ⟨u2, h1, mu⟩ := s.lk a z
        rw [e] at h1
        cases h1
        exact mu.elim
    exact ⟨a, dx, vs, e1, e2', e3, e4.len, s.lk, s.old, s.oth, s.io, F2, Reps.append (F := []) (DrL.reps e4) ⟨[], F2, rfl, ⟨rfl, a, dx, vs, e1, n1, e2, e3, e4⟩, r2⟩, nd, c⟩
  | obj C' ns' os =>
    have e : D.obj C' ns' (O.frzL os) = .obj C ns xs := e
    injection e with e0 e1 e
    subst e e0 e1
    obtain ⟨a, dx, vs, rfl, eh, hn, hl, s1⟩ := s.openO
    have hl2 : (O.frzL os).length = vs.length := by rw [frzL_len]; exact hl
    refine ⟨a, dx, vs, rfl, eh, hn, hl2, ?_⟩
    rw [show O.shal (.obj C' ns' os) = .obj C' ns' ((O.frzL os).map O.d) by rw [O.shal, map_d_frz]]
    exact kids_beside hl s1 fun z => z.closeO eh hn (by simpa using hl2)
  | tup xs => cases e
  | lst xs => cases e
  | dic ns xs => cases e
/-- one of them alone -/
theorem SatH.pick {m : List It1} : ∀ {l : List It1} {n : Nat} {p : It1}, l[n]? = some p → SatH T B H hs (l ++ m) → SatH T B H hs (p :: m)
  | [], n, p, e, s => by simp at e
  | q :: l, 0, p, e, s => by
    simp at e
    subst e
    exact SatH.dropL (m := l) (s.perm List.perm_middle.symm)
  | q :: l, n + 1, p, e, s => SatH.pick (l := l) (n := n) (by simpa using e) (SatH.drop1 (o := q.1) (v := q.2) s)
theorem zip_get {xs : List D} {vs : List V} {n : Nat} {d : D} {w : V} (e1 : xs[n]? = some d) (e2 : vs[n]? = some w) : ((xs.map O.d).zip vs)[n]? = some (.d d, w) := by
  rw [List.getElem?_zip_eq_some]
  exact ⟨by rw [List.getElem?_map, e1]; rfl, e2⟩
end
section
variable {T : Tab} {B : Base} {H H' : Hp} {l : List It1} {o p : O} {v : V} {x : D} {a : Addr} {hs : List Addr}
/-! ### data that reads as the library's -/
mutual
theorem okd_plain : ∀ (n : Nat) (d : D), D.okd n d = true → d.toP.plain = true ∧ d.toP.depth ≤ n
  | _, .non, _ => ⟨rfl, Nat.zero_le _⟩
  | _, .bl _, _ => ⟨rfl, Nat.zero_le _⟩
  | _, .int _, _ => ⟨rfl, Nat.zero_le _⟩
  | _, .str _, _ => ⟨rfl, Nat.zero_le _⟩
  | 0, .tup xs, h => by simp [D.okd] at h
  | 0, .lst xs, h => by simp [D.okd] at h
  | 0, .dic _ _, h => by simp [D.okd] at h
  | 0, .obj _ _ _, h => by simp [D.okd] at h
  | 0, .exc _ _, h => by simp [D.okd] at h
  | n + 1, .tup xs, h => by
    have h : D.okdL n xs = true := by simpa [D.okd] using h
    obtain ⟨h1, h2⟩ := okdL_plain n xs h
    exact ⟨by simpa [D.toP, PyData.plain] using h1, by simp only [D.toP, PyData.depth]; omega⟩
  | n + 1, .lst xs, h => by
    have h : D.okdL n xs = true := by simpa [D.okd] using h
    obtain ⟨h1, h2⟩ := okdL_plain n xs h
    exact ⟨by simpa [D.toP, PyData.plain] using h1, by simp only [D.toP, PyData.depth]; omega⟩
  | _ + 1, .dic _ _, h => by simp [D.okd] at h
  | _ + 1, .obj _ _ _, h => by simp [D.okd] at h
  | _ + 1, .exc _ _, h => by simp [D.okd] at h
theorem okdL_plain : ∀ (n : Nat) (ds : List D), D.okdL n ds = true → PyData.plainAll (D.toPL ds) = true ∧ PyData.depthAll (D.toPL ds) ≤ n
  | n, [], _ => ⟨rfl, Nat.zero_le _⟩
  | n, d :: ds, h => by
    have h : D.okd n d = true ∧ D.okdL n ds = true := by simpa [D.okdL] using h
    obtain ⟨h1, h2⟩ := okd_plain n d h.1
    obtain ⟨h3, h4⟩ := okdL_plain n ds h.2
    refine ⟨by simp [D.toPL, PyData.plainAll, h1, h3], ?_⟩
    simp only [D.toPL, PyData.depthAll]
    exact Nat.max_le.mpr ⟨h2, h4⟩
end
mutual
theorem eqd_eqv : ∀ (n m : Nat) (x y : D), D.okd n x = true → D.okd m y = true → PyData.eqv x.toP y.toP = D.eqd x y
  | n, m, x, y, hx, hy => by
    cases x with
    | tup xs =>
      cases n with
      | zero => simp [D.okd] at hx
      | succ n =>
        cases y with
        | tup ys =>
          cases m with
          | zero => simp [D.okd] at hy
          | succ m =>
            simp only [D.toP, PyData.eqv, D.eqd]
            exact eqdL_eqv n m xs ys (by simpa [D.okd] using hx) (by simpa [D.okd] using hy)
        | _ => first | rfl | (simp only [D.toP, PyData.eqv, D.eqd]) | (cases m <;> simp [D.okd] at hy)
    | lst xs =>
      cases n with
      | zero => simp [D.okd] at hx
      | succ n =>
        cases y with
        | lst ys =>
          cases m with
          | zero => simp [D.okd] at hy
          | succ m =>
            simp only [D.toP, PyData.eqv, D.eqd]
            exact eqdL_eqv n m xs ys (by simpa [D.okd] using hx) (by simpa [D.okd] using hy)
        | _ => first | rfl | (simp only [D.toP, PyData.eqv, D.eqd]) | (cases m <;> simp [D.okd] at hy)
    | dic ks vs => cases n <;> simp [D.okd] at hx
    | obj C ns vs => cases n <;> simp [D.okd] at hx
    | exc C p => cases n <;> simp [D.okd] at hx
    | _ => cases y <;> first | rfl | (simp only [D.toP, PyData.eqv, D.eqd]; done) | (cases m <;> simp [D.okd] at hy)
theorem eqdL_eqv : ∀ (n m : Nat) (xs ys : List D), D.okdL n xs = true → D.okdL m ys = true → PyData.eqvAll (D.toPL xs) (D.toPL ys) = D.eqdL xs ys
  | n, m, [], [], _, _ => rfl
  | n, m, [], y :: ys, _, _ => rfl
  | n, m, x :: xs, [], _, _ => rfl
  | n, m, x :: xs, y :: ys, hx, hy => by
    have hx : D.okd n x = true ∧ D.okdL n xs = true := by simpa [D.okdL] using hx
    have hy : D.okd m y = true ∧ D.okdL m ys = true := by simpa [D.okdL] using hy
    simp only [D.toPL, PyData.eqvAll, D.eqdL, eqd_eqv n m x y hx.1 hy.1, eqdL_eqv n m xs ys hx.2 hy.2]
end
mutual
theorem dr_dp (s : SatH T B H hs l) : ∀ (n : Nat) (d : D) (v : V), D.okd n d = true → Dr T (fun _ => False) (vw B.Z H) d v → Dp T.K H v d.toP
  | _, .non, v, _, e => by
    have e : v = .non := e
    subst e; exact .non
  | _, .bl b, v, _, e => by
    have e : v = .bl b := e
    subst e; exact .bl b
  | _, .int i, v, _, e => by
    have e : v = .int i := e
    subst e; exact .int i
  | _, .str z, v, _, e => by
    have e : v = .str z := e
    subst e; exact .str z
  | 0, .tup xs, v, h, e => by simp [D.okd] at h
  | 0, .lst xs, v, h, e => by simp [D.okd] at h
  | n + 1, .tup xs, v, h, e => by
    obtain ⟨a, vs, rfl, h1, h2⟩ := readT s e
    simp only [D.toP]
    exact .tup h1 (dr_dpL s n xs vs (by simpa [D.okd] using h) h2)
  | n + 1, .lst xs, v, h, e => by
    obtain ⟨a, vs, rfl, h1, h2⟩ := readL s e
    simp only [D.toP]
    exact .lst h1 (dr_dpL s n xs vs (by simpa [D.okd] using h) h2)
  | 0, .dic _ _, v, h, e => by simp [D.okd] at h
  | 0, .obj _ _ _, v, h, e => by simp [D.okd] at h
  | 0, .exc _ _, v, h, e => by simp [D.okd] at h
  | _ + 1, .dic _ _, v, h, e => by simp [D.okd] at h
  | _ + 1, .obj _ _ _, v, h, e => by simp [D.okd] at h
  | _ + 1, .exc _ _, v, h, e => by simp [D.okd] at h
theorem dr_dpL (s : SatH T B H hs l) : ∀ (n : Nat) (ds : List D) (vs : List V), D.okdL n ds = true → DrL T (fun _ => False) (vw B.Z H) ds vs → DpAll T.K H vs (D.toPL ds)
  | n, [], vs, _, e => by
    have e : vs = [] := e
    subst e; exact .nil
  | n, d :: ds, vs, h, e => by
    obtain ⟨v, r, rfl, e1, e2⟩ := e
    have h : D.okd n d = true ∧ D.okdL n ds = true := by simpa [D.okdL] using h
    simp only [D.toPL]
    exact .cons (dr_dp s n d v h.1 e1) (dr_dpL s n ds r h.2 e2)
end
end
end PV
/-! PV7b: a dict among texts: no text is == to it -/
namespace PySem.SeqAt
open AutoSeq1 (wpAny_loadPart')
open MeetsSeq
theorem str_eq_declines_dict (b : Str) (u : Tok) (l : Addr) (es : Array DictEntry) (n : Nat) :
    Meets (Builtin.«str.__eq__» ⟨[.str b u, .ref l], []⟩) (fun _ R s => s.heap.get? l = some { cls := .type "dict", dict := none, data := .dict es n, slots := #[] } ∧ R (.ok (.ret .notImplemented)) s) :=
  .of_wp fun prog w A R s h => by obtain ⟨hp, g, d, tk, os⟩ := s; obtain ⟨hl, h⟩ := h; wp_walk using wpAny_loadPart' hl, wpAny_load hl; exact ⟨_, rfl, h⟩
theorem dict_eq_declines_str (l : Addr) (es : Array DictEntry) (n : Nat) (b : Str) (u : Tok) :
    Meets (Builtin.«dict.__eq__» ⟨[.ref l, .str b u], []⟩) (fun _ R s => s.heap.get? l = some { cls := .type "dict", dict := none, data := .dict es n, slots := #[] } ∧ R (.ok (.ret .notImplemented)) s) :=
  .of_wp fun prog w A R s h => by obtain ⟨hp, g, d, tk, os⟩ := s; obtain ⟨hl, h⟩ := h; have f1 := F.sub_str_dict; wp_walk using wpAny_loadPart' hl; exact ⟨_, rfl, h⟩
theorem eqAt_str_dict {A : Around} {s : Shared} {l : Addr} {es : Array DictEntry} {n : Nat} (b : Str) (u : Tok) (ho : s.heap.get? l = some { cls := .type "dict", dict := none, data := .dict es n, slots := #[] }) (hu : A.units < cLine) : EqAt A s (.str b u) (.ref l) false := fun prog w E Q h => by
  unfold eqBool
  refine wpAny_holding ?_
  refine wpAny_ite_split (fun hab => absurd (eq_of_beq hab) nofun) (fun _ => ?_)
  refine wpAny_bind ?_
  exact rc_eq_decline_or (k := false) (typeIs_str s b u) ⟨_, ho, rfl⟩ (by decide) F.sub_dict_str F.slot_str_eq F.slot_dict_eq_refl
    (fun _ hq => call_meets F.slot_str_eq (typeIs_str s b u) F.entry_str_eq (F.args_str_eq_2 _ _) (str_eq_declines_dict b u l es n) ⟨ho, hq⟩)
    (fun _ hq => call_meets F.slot_dict_eq_refl ⟨_, ho, rfl⟩ F.entry_dict_eq (F.args_dict_eq_2 _ _) (dict_eq_declines_str l es n b u) ⟨ho, hq⟩)
    (fun _ hq => wpAny_of_eq (rfl : isSame (.str b u) (.ref l) = pure false) hq) (.inr hu) (wpAny_truthy_bool h)
end PySem.SeqAt
namespace PV
open PySem PySem.Spec PyProof.Rows L2
section
variable {T : Tab} {B : Base} {X : Cx} {σ : L2.St} {l m : List It1} {H : Hp} {pins : List (Addr × Obj)} {s : Shared} {hs : List Addr}
theorem dic_obj (I : Inv X pins σ H s) {a : Addr} {ks : List D} {ws : List V} (d : DicR H a ks ws) : ∃ (es : Array DictEntry) (n : Nat), s.heap.get? a = some { cls := .type "dict", dict := none, data := .dict es n, slots := #[] } := by
  have key : ∀ o : Obj, s.heap.get? a = some o → o.ExactDict → ∀ es ep, o.data = .dict es ep → ∃ (es : Array DictEntry) (n : Nat), s.heap.get? a = some { cls := .type "dict", dict := none, data := .dict es n, slots := #[] } := by
    rintro ⟨oc, od, dt, sl⟩ ho ⟨h1, h2, h3⟩ es ep h4
    simp only at h1 h2 h3 h4
    subst h1 h2 h3 h4
    exact ⟨es, ep, ho⟩
  rcases d with ⟨js, _, r, _⟩ | ⟨js, _, r, _⟩
  · obtain ⟨_, _, vs, _, o, es, ep, ho, ex, hd, _⟩ := r.ok I.hok
    exact key o ho ex es ep hd
  · obtain ⟨_, _, xs, _, o, es, ep, ho, ex, hd, _⟩ := r.ok I.hok
    exact key o ho ex es ep hd
theorem sq_vw (sa : SatH T B H hs l) {n : Nat} {a : Addr} {vs : List V} (t : TupAt T.K (vw B.Z H) n a vs) : SqT T.K H a vs := by
  rcases t with e | ⟨_, q⟩
  · exact .inl (rd_vw sa (fun _ _ z => nomatch z) (.inl e))
  · exact .inr q
theorem strs_of {own : Addr → Prop} {h : Hp} : ∀ {ys : List D} {vs : List V}, DrL T own h ys vs → ys.all isStrD = true → ∀ v ∈ vs, ∃ z, v = .str z
  | [], vs, d, _, v, hv => by
    cases (show vs = [] from d)
    cases hv
  | y :: ys, vs, d, hy, v, hv => by
    obtain ⟨v0, r, rfl, d0, d1⟩ := d
    rw [List.all_cons, Bool.and_eq_true] at hy
    rcases List.mem_cons.mp hv with rfl | hv
    · cases y with
      | str z => exact ⟨z, d0⟩
      | _ => cases hy.1
    · exact strs_of d1 hy.2 v hv
theorem vals_mem {u : Value} : ∀ {vs : List V} {us : List Value}, Vals vs us → u ∈ us → ∃ v ∈ vs, RelV v u
  | _, _, .nil, h => by cases h
  | _, _, .cons r rs, h => by
    rcases List.mem_cons.mp h with rfl | h
    · exact ⟨_, List.mem_cons_self, r⟩
    · obtain ⟨v, hv, q⟩ := vals_mem rs h
      exact ⟨v, List.mem_cons_of_mem _ hv, q⟩
/-- a dict in a tuple of texts -/
theorem in_dic (hK : X.K = T.K) (hu : X.A.units + 200 < cLine) (I : Inv X pins σ H s) {x : V} {v u : Value} {y : V} (rx : RelV x v) (ry : RelV y u) {own : Addr → Prop} {ks ds ys : List D} (sa : SatH T B H hs m) (d1 : Dr T own (vw B.Z H) (.dic ks ds) x) (d2 : Dr T own (vw B.Z H) (.tup ys) y) (hy : ys.all isStrD = true) (hq : ∀ {a n vs}, TupAt T.K (vw B.Z H) n a vs → SqT T.K H a vs) {Q : VK} (neg : Bool) (q : Q (.bl neg) H) :
    wpAny (model X.prog X.w) X.A (compareOp (if neg then .NotIn else .In) v u) (EP X pins σ Q) X.xe s := by
  obtain ⟨a, ws, rfl, dr, _⟩ := drDic sa d1
  obtain ⟨es, n, ho⟩ := dic_obj I dr
  obtain ⟨b, vs, rfl, ht, dl⟩ := d2
  cases rx
  cases ry
  have ht := hq ht
  rw [← hK] at ht
  obtain ⟨its, rv, p, hz⟩ := I.tuple ht
  have he : ∀ y, y ∈ its.toArray → SeqAt.EqAt X.A.in1 s y (.ref a) ((fun _ => false) y) := fun y hyy => by
    obtain ⟨w, hw, rw_⟩ := vals_mem rv (show y ∈ its by simpa using hyy)
    obtain ⟨z, rfl⟩ := strs_of dl hy w hw
    obtain ⟨t, e⟩ := (show ∃ t, y = Value.str z t from rw_)
    subst e
    exact SeqAt.eqAt_str_dict z t ho (by show X.A.units + 1 < cLine; omega)
  have ha : its.toArray.any (fun _ => false) = false := by simp
  cases neg with
  | false => exact SeqAt.in_tupleAt (fun _ => false) (show s.heap.IsTuple b its.toArray from p) he ⟨.bl _, H, I, rfl, by rw [ha]; exact q⟩
  | true => exact SeqAt.notIn_tupleAt (fun _ => false) (show s.heap.IsTuple b its.toArray from p) he ⟨.bl _, H, I, rfl, by rw [ha]; exact q⟩
end
end PV
/-! PV8: comparisons -/
namespace PV
open PySem PySem.Spec PyProof.Rows L2
section
variable {T : Tab} {B : Base} {X : Cx}
theorem dr_non {own : Addr → Prop} {h : Hp} : ∀ {d : D}, Dr T own h d .non → d = .non
  | .non, _ => rfl
  | .bl _, e => nomatch (show V.non = V.bl _ from e)
  | .int _, e => nomatch (show V.non = V.int _ from e)
  | .str _, e => nomatch (show V.non = V.str _ from e)
  | .tup _, e => by obtain ⟨_, _, z, _⟩ := e; cases z
  | .lst _, e => by obtain ⟨_, _, z, _⟩ := e; cases z
  | .dic _ _, e => by obtain ⟨_, _, z, _⟩ := e; cases z
  | .obj _ _ _, e => by obtain ⟨_, _, _, z, _⟩ := e; cases z
  | .exc _ _, e => e.elim
def cmOp : Cm → CmpOp
  | .eq => .Eq | .ne => .NotEq | .lt => .Lt | .le => .LtE | .gt => .Gt | .ge => .GtE | .is => .Is | .isnot => .IsNot | .isin => .In | .notin => .NotIn
section
variable {pins : List (Addr × Obj)} {s : Shared} {σ : L2.St} {H : Hp} {x y : V} {v u : Value} {Q : VK} {o p : O} {l : List It1}
theorem cm_eq (hK : X.K = T.K) (hu : X.A.units + 200 < cLine) (I : Inv X pins σ H s) (rx : RelV x v) (ry : RelV y u) (sa : Sat T B H ((o, x) :: (p, y) :: l)) (hc : okS o.frz p.frz = true) (q : Q (.bl (D.eqd o.frz p.frz)) H) : wpAny (model X.prog X.w) X.A (compareOp .Eq v u) (EP X pins σ Q) X.xe s := by
  have hc : D.okd 150 o.frz = true ∧ D.okd 150 p.frz = true := by simpa [okS] using hc
  have p1 := dr_dp sa 150 _ _ hc.1 sa.read
  have p2 := dr_dp sa 150 _ _ hc.2 sa.read2
  rw [← hK] at p1 p2
  obtain ⟨as, r1⟩ := Dp.reads I _ x v p1 rx
  obtain ⟨bs, r2⟩ := Dp.reads I _ y u p2 ry
  have k1 := okd_plain 150 _ hc.1
  have k2 := okd_plain 150 _ hc.2
  have km : min o.frz.toP.depth p.frz.toP.depth ≤ 150 := Nat.le_trans (Nat.min_le_left _ _) k1.2
  refine PySem.SeqAt.eq_plain r1 r2 k1.1 k2.1 (by omega) ?_
  rw [eqd_eqv 150 150 _ _ hc.1 hc.2]
  exact ⟨.bl _, H, I, rfl, q⟩
theorem cm_ne (hK : X.K = T.K) (hu : X.A.units + 200 < cLine) (I : Inv X pins σ H s) (rx : RelV x v) (ry : RelV y u) (sa : Sat T B H ((o, x) :: (p, y) :: l)) (hc : okS o.frz p.frz = true) (q : Q (.bl (!D.eqd o.frz p.frz)) H) : wpAny (model X.prog X.w) X.A (compareOp .NotEq v u) (EP X pins σ Q) X.xe s := by
  have hc : D.okd 150 o.frz = true ∧ D.okd 150 p.frz = true := by simpa [okS] using hc
  have p1 := dr_dp sa 150 _ _ hc.1 sa.read
  have p2 := dr_dp sa 150 _ _ hc.2 sa.read2
  rw [← hK] at p1 p2
  obtain ⟨as, r1⟩ := Dp.reads I _ x v p1 rx
  obtain ⟨bs, r2⟩ := Dp.reads I _ y u p2 ry
  have k1 := okd_plain 150 _ hc.1
  have k2 := okd_plain 150 _ hc.2
  have km : min o.frz.toP.depth p.frz.toP.depth ≤ 150 := Nat.le_trans (Nat.min_le_left _ _) k1.2
  refine PySem.SeqAt.ne_plain r1 r2 k1.1 k2.1 (by omega) ?_
  rw [eqd_eqv 150 150 _ _ hc.1 hc.2]
  exact ⟨.bl _, H, I, rfl, q⟩
theorem any_eqd : ∀ (n : Nat) {x : D} (ys : List D), D.okd 150 x = true → D.okdL n ys = true → ((D.toPL ys).any fun y => PyData.eqv y x.toP) = ys.any fun y => D.eqd y x
  | _, _, [], _, _ => rfl
  | n, x, y :: ys, hx, h => by
    have h : D.okd n y = true ∧ D.okdL n ys = true := by simpa [D.okdL] using h
    simp only [D.toPL, List.any_cons, eqd_eqv n 150 y x h.1 hx, any_eqd n ys hx h.2]
/-- x in y -/
theorem cm_in (hK : X.K = T.K) (hu : X.A.units + 200 < cLine) (I : Inv X pins σ H s) (rx : RelV x v) (ry : RelV y u) (sa : Sat T B H ((o, x) :: (p, y) :: l)) {b : Bool} (e : cmpD.inD o.frz p.frz = some b) (neg : Bool) (q : Q (.bl (if neg then !b else b)) H) : wpAny (model X.prog X.w) X.A (compareOp (if neg then .NotIn else .In) v u) (EP X pins σ Q) X.xe s := by
  have d1 := sa.read
  have d2 := sa.read2
  cases eb : p.frz with
  | lst ys =>
    rw [eb] at e
    have e : (if (D.okd 150 o.frz && D.okdL 150 ys) = true then some (ys.any fun y => D.eqd y o.frz) else none) = some b := e
    split at e
    · rename_i hc
      rw [Bool.and_eq_true] at hc
      injection e with e; subst e
      have hy : D.okd 151 p.frz = true := by rw [eb]; simpa [D.okd] using hc.2
      have p1 := dr_dp sa 150 _ _ hc.1 d1
      have p2 := dr_dp sa 151 _ _ hy d2
      rw [← hK] at p1 p2
      obtain ⟨as, r1⟩ := Dp.reads I _ x v p1 rx
      obtain ⟨bs, r2⟩ := Dp.reads I _ y u p2 ry
      rw [eb] at r2
      have k1 := okd_plain 150 _ hc.1
      have k2 := okdL_plain 150 _ hc.2
      have km : min (PyData.depthAll (D.toPL ys)) o.frz.toP.depth ≤ 150 := Nat.le_trans (Nat.min_le_left _ _) k2.2
      cases neg with
      | false => exact PySem.SeqAt.in_list_data r2 r1 k2.1 k1.1 (by omega) ⟨.bl _, H, I, rfl, by rw [any_eqd 150 ys hc.1 hc.2]; exact q⟩
      | true => exact PySem.SeqAt.notIn_list_data r2 r1 k2.1 k1.1 (by omega) ⟨.bl _, H, I, rfl, by rw [any_eqd 150 ys hc.1 hc.2]; exact q⟩
    · cases e
  | tup ys =>
    rw [eb] at e
    have e : (if (D.okd 150 o.frz && D.okdL 150 ys) = true then some (ys.any fun y => D.eqd y o.frz) else inDic o.frz ys) = some b := e
    split at e
    · rename_i hc
      rw [Bool.and_eq_true] at hc
      injection e with e; subst e
      have hy : D.okd 151 p.frz = true := by rw [eb]; simpa [D.okd] using hc.2
      have p1 := dr_dp sa 150 _ _ hc.1 d1
      have p2 := dr_dp sa 151 _ _ hy d2
      rw [← hK] at p1 p2
      obtain ⟨as, r1⟩ := Dp.reads I _ x v p1 rx
      obtain ⟨bs, r2⟩ := Dp.reads I _ y u p2 ry
      rw [eb] at r2
      have k1 := okd_plain 150 _ hc.1
      have k2 := okdL_plain 150 _ hc.2
      have km : min (PyData.depthAll (D.toPL ys)) o.frz.toP.depth ≤ 150 := Nat.le_trans (Nat.min_le_left _ _) k2.2
      cases neg with
      | false => exact PySem.SeqAt.in_tuple_data r2 r1 k2.1 k1.1 (by omega) ⟨.bl _, H, I, rfl, by rw [any_eqd 150 ys hc.1 hc.2]; exact q⟩
      | true => exact PySem.SeqAt.notIn_tuple_data r2 r1 k2.1 k1.1 (by omega) ⟨.bl _, H, I, rfl, by rw [any_eqd 150 ys hc.1 hc.2]; exact q⟩
    · rw [eb] at d2
      cases ea : o.frz with
      | dic ks ds =>
        rw [ea] at e d1
        have e : (if ys.all isStrD then some false else none) = some b := e
        split at e
        · rename_i hy
          cases e
          have q : Q (.bl neg) H := by cases neg <;> exact q
          exact in_dic hK hu I rx ry sa d1 d2 hy (fun t => sq_vw sa t) neg q
        · cases e
      | _ => rw [ea] at e; cases e
  | dic ks ds =>
    rw [eb] at e d2
    have e : (if kindOk o.frz ks = true then some (lookD o.frz ks ds).isSome else none) = some b := e
    split at e
    · rename_i hc
      injection e with e; subst e
      obtain ⟨a, ws, rfl, dr, dl⟩ := drDic sa d2
      have g := dic_get (ds := ds) sa dr dl.len d1 hc
      cases ry
      have fin : ∀ (ov : Option V), DGe H a x ov → ov.isSome = (lookD o.frz ks ds).isSome → wpAny (model X.prog X.w) X.A (compareOp (if neg then .NotIn else .In) v (.ref a)) (EP X pins σ Q) X.xe s := by
        intro ov g eo
        cases neg with
        | false => exact dg_in (by omega) I g rx fun s' I' => ⟨.bl _, H, I', rfl, by rw [eo]; exact q⟩
        | true => exact dg_notIn (by omega) I g rx fun s' I' => ⟨.bl _, H, I', rfl, by rw [eo]; exact q⟩
      rcases g with ⟨n, d, w, e1, g, _⟩ | ⟨e1, g⟩
      · exact fin (some w) (.inl g) (by rw [e1]; rfl)
      · exact fin none g (by rw [e1]; rfl)
    · cases e
  | str t =>
    rw [eb] at e d2
    have d2 : y = .str t := d2
    subst d2
    cases ea : o.frz with
    | str z =>
      rw [ea] at e d1
      have d1 : x = .str z := d1
      subst d1
      have e : (match z.cps.toList with
        | [c] => some (decide (c ∈ t.cps.toList))
        | _ => some (!(Builtin.Str.occurrences t z 0 t.length 1).isEmpty)) = some b := e
      split at e
      · rename_i c hc
        injection e with e; subst e
        have hz : z = ⟨#[c]⟩ := by
          cases z with
          | mk cps =>
            congr 1
            exact Array.toList_inj.mp (by simpa using hc)
        subst hz
        cases neg with
        | false => exact op_in_sign pins s σ H _ _ v u Q I rx ry ⟨c, t, rfl, rfl, q⟩
        | true => exact op_notIn_sign pins s σ H _ _ v u Q I rx ry ⟨c, t, rfl, rfl, q⟩
      · injection e with e; subst e
        cases neg with
        | false => exact op_in_str pins s σ H _ _ v u Q I rx ry ⟨z, t, rfl, rfl, q⟩
        | true => exact op_notin_str pins s σ H _ _ v u Q I rx ry ⟨z, t, rfl, rfl, q⟩
    | _ => rw [ea] at e; cases e
  | _ => rw [eb] at e; cases e
end
theorem opCm (hK : X.K = T.K) (hu : X.A.units + 200 < cLine) (k : Cm) : OpR X (compareOp (cmOp k)) (fun x y H Q => relN T B (cmD k) false [x, y] H Q) := by
  intro pins s σ H x y v u Q I rx ry h
  obtain ⟨o, p, l, r, sa, e, q⟩ := rel2 h
  have d1 := sa.read
  have d2 := sa.read2
  have e : (cmpD k o.frz p.frz).map (fun b => O.d (.bl b)) = some r := e
  obtain ⟨b, ek, er⟩ := Option.map_eq_some_iff.mp e
  subst er
  have fin : Q (.bl b) H := q _ _ sa.bl
  cases k with
  | eq =>
    have ek : (if okS o.frz p.frz then some (D.eqd o.frz p.frz) else none) = some b := ek
    split at ek
    · rename_i hc
      injection ek with ek; subst ek
      exact cm_eq hK hu I rx ry sa hc fin
    · cases ek
  | ne =>
    have ek : (if okS o.frz p.frz then some (!D.eqd o.frz p.frz) else none) = some b := ek
    split at ek
    · rename_i hc
      injection ek with ek; subst ek
      exact cm_ne hK hu I rx ry sa hc fin
    · cases ek
  | isin => exact cm_in hK hu I rx ry sa (b := b) ek false fin
  | notin =>
    have ek : (cmpD.inD o.frz p.frz).map (!·) = some b := ek
    obtain ⟨c, e1, e2⟩ := Option.map_eq_some_iff.mp ek
    subst e2
    exact cm_in hK hu I rx ry sa (b := c) e1 true fin
  | is =>
    cases eb : p.frz with
    | non =>
      rw [eb] at d2 ek
      have d2 : y = .non := d2
      subst d2
      refine op_isN pins s σ H _ _ v u Q I rx ry ⟨rfl, ?_⟩
      cases ea : o.frz with
      | non =>
        rw [ea] at d1 ek
        have d1 : x = .non := d1
        subst d1
        injection ek with ek; subst ek
        exact fin
      | _ =>
        rw [ea] at d1 ek
        injection ek with ek; subst ek
        have : ¬ x = .non := fun z => by
          rw [z] at d1
          exact nomatch dr_non d1
        rw [decide_eq_false this]
        exact fin
    | _ => rw [eb] at ek; cases hh : o.frz <;> rw [hh] at ek <;> cases ek
  | isnot =>
    cases eb : p.frz with
    | non =>
      rw [eb] at d2 ek
      have d2 : y = .non := d2
      subst d2
      refine op_notN pins s σ H _ _ v u Q I rx ry ⟨rfl, ?_⟩
      cases ea : o.frz with
      | non =>
        rw [ea] at d1 ek
        have d1 : x = .non := d1
        subst d1
        injection ek with ek; subst ek
        exact fin
      | _ =>
        rw [ea] at d1 ek
        injection ek with ek; subst ek
        have : ¬ x = .non := fun z => by
          rw [z] at d1
          exact nomatch dr_non d1
        rw [decide_eq_false this]
        exact fin
    | _ => rw [eb] at ek; cases hh : o.frz <;> rw [hh] at ek <;> cases ek
  | lt =>
    cases ea : o.frz with
    | int i =>
      rw [ea] at d1 ek
      have d1 : x = .int i := d1
      subst d1
      cases eb : p.frz with
      | int j =>
        rw [eb] at d2 ek
        have d2 : y = .int j := d2
        subst d2
        injection ek with ek; subst ek
        exact op_lt pins s σ H _ _ v u Q I rx ry ⟨i, j, rfl, rfl, fin⟩
      | _ => rw [eb] at ek; cases ek
    | str i =>
      rw [ea] at d1 ek
      have d1 : x = .str i := d1
      subst d1
      cases eb : p.frz with
      | str j =>
        rw [eb] at d2 ek
        have d2 : y = .str j := d2
        subst d2
        injection ek with ek; subst ek
        exact op_lt_str pins s σ H _ _ v u Q I rx ry ⟨i, j, rfl, rfl, fin⟩
      | _ => rw [eb] at ek; cases ek
    | _ => rw [ea] at ek; cases ek
  | le =>
    cases ea : o.frz with
    | int i =>
      rw [ea] at d1 ek
      have d1 : x = .int i := d1
      subst d1
      cases eb : p.frz with
      | int j =>
        rw [eb] at d2 ek
        have d2 : y = .int j := d2
        subst d2
        injection ek with ek; subst ek
        exact op_le pins s σ H _ _ v u Q I rx ry ⟨i, j, rfl, rfl, fin⟩
      | _ => rw [eb] at ek; cases ek
    | str i =>
      rw [ea] at d1 ek
      have d1 : x = .str i := d1
      subst d1
      cases eb : p.frz with
      | str j =>
        rw [eb] at d2 ek
        have d2 : y = .str j := d2
        subst d2
        injection ek with ek; subst ek
        exact op_le_str pins s σ H _ _ v u Q I rx ry ⟨i, j, rfl, rfl, fin⟩
      | _ => rw [eb] at ek; cases ek
    | _ => rw [ea] at ek; cases ek
  | gt =>
    cases ea : o.frz with
    | int i =>
      rw [ea] at d1 ek
      have d1 : x = .int i := d1
      subst d1
      cases eb : p.frz with
      | int j =>
        rw [eb] at d2 ek
        have d2 : y = .int j := d2
        subst d2
        injection ek with ek; subst ek
        exact op_gt pins s σ H _ _ v u Q I rx ry ⟨i, j, rfl, rfl, fin⟩
      | _ => rw [eb] at ek; cases ek
    | str i =>
      rw [ea] at d1 ek
      have d1 : x = .str i := d1
      subst d1
      cases eb : p.frz with
      | str j =>
        rw [eb] at d2 ek
        have d2 : y = .str j := d2
        subst d2
        injection ek with ek; subst ek
        exact op_gt_str pins s σ H _ _ v u Q I rx ry ⟨i, j, rfl, rfl, fin⟩
      | _ => rw [eb] at ek; cases ek
    | _ => rw [ea] at ek; cases ek
  | ge =>
    cases ea : o.frz with
    | int i =>
      rw [ea] at d1 ek
      have d1 : x = .int i := d1
      subst d1
      cases eb : p.frz with
      | int j =>
        rw [eb] at d2 ek
        have d2 : y = .int j := d2
        subst d2
        injection ek with ek; subst ek
        exact op_ge pins s σ H _ _ v u Q I rx ry ⟨i, j, rfl, rfl, fin⟩
      | _ => rw [eb] at ek; cases ek
    | str i =>
      rw [ea] at d1 ek
      have d1 : x = .str i := d1
      subst d1
      cases eb : p.frz with
      | str j =>
        rw [eb] at d2 ek
        have d2 : y = .str j := d2
        subst d2
        injection ek with ek; subst ek
        exact op_ge_str pins s σ H _ _ v u Q I rx ry ⟨i, j, rfl, rfl, fin⟩
      | _ => rw [eb] at ek; cases ek
    | _ => rw [ea] at ek; cases ek
end
end PV
/-! PV9: subscripts, slices, attributes -/
namespace PV
open PySem PySem.Spec PyProof.Rows L2
section
variable {T : Tab} {B : Base} {X : Cx} {H : Hp} {hs : List Addr} {m : List It1}
theorem oc {o : O} : (∀ os, o ≠ .tup os) → (∀ os, o ≠ .lst os) → (∀ ks os, o ≠ .dic ks os) → (∀ C ns os, o ≠ .obj C ns os) → o.shal = o := by
  intro h1 h2 h3 h4
  cases o with
  | d x => rfl
  | tup os => exact (h1 _ rfl).elim
  | lst os => exact (h2 _ rfl).elim
  | dic ks os => exact (h3 _ _ rfl).elim
  | obj C ns os => exact (h4 _ _ _ rfl).elim
theorem shal_int {o : O} {i : Int} (e : o.frz = .int i) : o.shal = o := by cases o <;> first | rfl | cases e
theorem shal_str {o : O} {i : Str} (e : o.frz = .str i) : o.shal = o := by cases o <;> first | rfl | cases e
theorem shal_non {o : O} (e : o.frz = .non) : o.shal = o := by cases o <;> first | rfl | cases e
theorem shal_bl {o : O} {b : Bool} (e : o.frz = .bl b) : o.shal = o := by cases o <;> first | rfl | cases e
theorem shal_tup {o : O} {xs : List D} (e : o.frz = .tup xs) (sa : SatH T B H hs ((o, v) :: m)) : SatH T B H hs ((o.shal, v) :: m) := (Sat.dupT sa e).drop1
theorem shal_any {o : O} {v : V} (sa : SatH T B H hs ((o, v) :: m)) : SatH T B H hs ((o.shal, v) :: m) := by
  cases o with
  | d x => exact sa
  | tup os => exact shal_tup (xs := O.frzL os) rfl sa
  | lst os =>
    obtain ⟨a, vs, rfl, _, _, s⟩ := Sat.kidsL sa (xs := O.frzL os) rfl
    exact SatH.dropL s
  | dic ks os =>
    obtain ⟨a, vs, rfl, _, _, s⟩ := Sat.kidsD sa (ks := ks) (xs := O.frzL os) rfl
    exact SatH.dropL s
  | obj C ns os =>
    obtain ⟨a, dx, vs, rfl, _, _, _, s⟩ := Sat.kidsO sa (C := C) (ns := ns) (xs := O.frzL os) rfl
    exact SatH.dropL s
theorem SatH.sub {l l' : List It1} (h : l.Sublist l') : ∀ {m : List It1}, SatH T B H hs (l' ++ m) → SatH T B H hs (l ++ m) := by
  induction h with
  | slnil => exact fun s => s
  | cons a _ ih => exact fun s => ih (SatH.drop1 (o := a.1) (v := a.2) s)
  | cons_cons a _ ih => exact fun {m} s => (ih (m := a :: m) (s.perm (by exact List.perm_middle.symm))).perm List.perm_middle
theorem zip_cut {xs : List D} {vs : List V} (hl : xs.length = vs.length) (n k : Nat) : ((((xs.drop n).take k).map O.d).zip ((vs.drop n).take k)).Sublist ((xs.map O.d).zip vs) := by
  have e : (((xs.drop n).take k).map O.d).zip ((vs.drop n).take k) = (((xs.map O.d).zip vs).drop n).take k := by
    rw [List.map_take, List.map_drop]
    simp only [List.zip, List.drop_zipWith, List.take_zipWith]
  rw [e]
  exact (List.take_sublist _ _).trans (List.drop_sublist _ _)
theorem atI_two {xs : List D} {vs : List V} (hl : xs.length = vs.length) {i : Int} {d : D} (e : atI xs i = some d) : ∃ (n : Nat) (w : V), xs[n]? = some d ∧ vs[n]? = some w ∧ atI vs i = some w := by
  unfold atI at e
  cases q : ixN xs.length i with
  | none => rw [q] at e; cases e
  | some n =>
    rw [q] at e
    have e : xs[n]? = some d := e
    obtain ⟨hn, _⟩ := List.getElem?_eq_some_iff.mp e
    refine ⟨n, vs[n]'(by omega), e, List.getElem?_eq_getElem (by omega), ?_⟩
    have q' : ixN vs.length i = some n := by rw [← hl]; exact q
    unfold atI
    rw [q']
    exact List.getElem?_eq_getElem (by omega)
theorem ix_dict (hu : X.A.units + 1 < cLine) : IxR X (fun x y H Q => ∃ a v, x = .ref a ∧ DGet H a y (some v) ∧ Q v H) := by
  intro value slice pins s σ H x y v u Q I rx ry h hs
  obtain ⟨a, z, rfl, g, q⟩ := h
  cases rx
  exact tail_any (dict_typeIs I g) slot_dict_getitem.lookup (d_getItem hu I g ry fun w' s3 I3 rw' => ⟨z, H, I3, rw', q⟩) hs
theorem opIdx (hK : X.K = T.K) (hu : X.A.units + 200 < cLine) : IxR X (fun x y H Q => relN T B idxD true [x, y] H Q) := by
  intro value slice pins s σ H x y v u Q I rx ry h hsl
  obtain ⟨o, p, l, r, sa, e, q⟩ := rel2 h
  have d2 := sa.read2
  rw [if_pos rfl, if_pos rfl] at q
  have sp : Sat T B H ((o, x) :: (p.shal, y) :: l) := (shal_any (sa.swap)).swap
  cases ea : o.frz with
  | lst xs =>
    rw [ea] at e
    cases eb : p.frz with
    | int i =>
      rw [eb] at e d2
      have d2 : y = .int i := d2
      subst d2
      have e : (atI xs i).map O.d = some r := e
      obtain ⟨d, e1, e2⟩ := Option.map_eq_some_iff.mp e
      subst e2
      obtain ⟨a, vs, rfl, ha, hl, s1⟩ := Sat.kidsL sp ea
      obtain ⟨n, w, g1, g2, g3⟩ := atI_two hl e1
      exact ix_list value slice pins s σ H _ _ v u Q I rx ry ⟨a, vs, i, w, rfl, rfl, by rw [hK]; exact ha, g3, q _ _ (SatH.pick (zip_get g1 g2) s1)⟩ hsl
    | _ => rw [eb] at e; cases e
  | tup xs =>
    rw [ea] at e
    cases eb : p.frz with
    | int i =>
      rw [eb] at e d2
      have d2 : y = .int i := d2
      subst d2
      have e : (atI xs i).map O.d = some r := e
      obtain ⟨d, e1, e2⟩ := Option.map_eq_some_iff.mp e
      subst e2
      obtain ⟨a, vs, rfl, ha, hl, s1⟩ := Sat.kidsT sp ea
      obtain ⟨n, w, g1, g2, g3⟩ := atI_two hl e1
      exact ix_tup value slice pins s σ H _ _ v u Q I rx ry ⟨a, vs, i, w, rfl, rfl, by rw [hK]; exact ha, g3, q _ _ (SatH.pick (zip_get g1 g2) s1)⟩ hsl
    | _ => rw [eb] at e; cases e
  | str z =>
    have d1 := sa.read
    rw [ea] at e d1
    have d1 : x = .str z := d1
    subst d1
    cases eb : p.frz with
    | int i =>
      rw [eb] at e d2
      have d2 : y = .int i := d2
      subst d2
      have e : (if z.length ≤ sizeLine then (atI z.cps.toList i).map fun c => O.d (.str ⟨#[c]⟩) else none) = some r := e
      split at e
      · rename_i hz
        obtain ⟨c, e1, e2⟩ := Option.map_eq_some_iff.mp e
        subst e2
        rw [shal_str ea, shal_int eb] at q
        exact ix_str value slice pins s σ H _ _ v u Q I rx ry ⟨z, i, c, rfl, rfl, hz, e1, q _ _ sa.str⟩ hsl
      · cases e
    | _ => rw [eb] at e; cases e
  | dic ks ds =>
    rw [ea] at e
    have e : (if kindOk p.frz ks = true then (lookD p.frz ks ds).map O.d else none) = some r := by
      cases hp : p.frz <;> rw [hp] at e <;> exact e
    split at e
    · rename_i hk
      obtain ⟨d, e1, e2⟩ := Option.map_eq_some_iff.mp e
      subst e2
      obtain ⟨a, vs, rfl, ha, hl, s1⟩ := Sat.kidsD sp ea
      rcases dic_get sa ha hl d2 hk with ⟨n, d', w, f1, f2, f3, f4⟩ | ⟨f1, _⟩
      · rw [e1] at f1
        injection f1 with f1
        subst f1
        exact ix_dict (by omega) value slice pins s σ H _ _ v u Q I rx ry ⟨a, w, rfl, f2, q _ _ (SatH.pick (zip_get f3 f4) s1)⟩ hsl
      · rw [e1] at f1; cases f1
    · cases e
  | _ => rw [ea] at e; cases hp : p.frz <;> rw [hp] at e <;> cases e
/-- a part of a slice -/
def PartV (y : V) (lo : Option Int) : Prop := (y = .non ∧ lo = none) ∨ ∃ i, y = .int i ∧ lo = some i
theorem part_of {p : D} {y : V} {lo lo' : Option Int} {own : Addr → Prop} {h : Hp} (e : partD p = some lo) (d : Dr T own h p y) (k : PartV y lo') : lo = lo' := by
  cases p with
  | non =>
    injection e with e
    have d : y = .non := d
    subst d e
    rcases k with ⟨_, k⟩ | ⟨i, k, _⟩
    · exact k.symm
    · cases k
  | int i =>
    injection e with e
    have d : y = .int i := d
    subst d e
    rcases k with ⟨k, _⟩ | ⟨j, k, k'⟩
    · cases k
    · injection k with k; rw [k', k]
  | _ => cases e
theorem rel3 {f : List D → Option O} {sh : Bool} {y z w : V} {Q : VK} (h : relN T B f sh [y, z, w] H Q) : ∃ o p q l r, Sat T B H ((o, y) :: (p, z) :: (q, w) :: l) ∧ f [o.frz, p.frz, q.frz] = some r ∧ ∀ u H', Sat T B H' ((r, u) :: (if sh then o.shal else o, y) :: (if sh then p.shal else p, z) :: (if sh then q.shal else q, w) :: l) → Q u H' := by
  obtain ⟨os, l, r, hl, s, e, q⟩ := h
  match os, hl with
  | [o, p, q'], _ => exact ⟨o, p, q', l, r, s, e, fun u H' z => q u H' (by cases sh <;> exact z)⟩
theorem opSlc (hK : X.K = T.K) : SlR X (fun x lo hi H Q => ∃ y z, PartV y lo ∧ PartV z hi ∧ relN T B slcD true [x, y, z] H Q) := by
  intro pins s σ H x v vl vu lo hi sl Q I rx hs pl pu h
  obtain ⟨y, z, k1, k2, h⟩ := h
  obtain ⟨o, p, t, l, r, sa, e, q⟩ := rel3 h
  have dp := sa.swap.read
  have dt := (SatH.drop1 sa).swap.read
  rw [if_pos rfl, if_pos rfl, if_pos rfl] at q
  have e : (match partD p.frz, partD t.frz with
    | some lo, some hi => (match o.frz with
      | .lst xs => some (O.lst ((cutD xs lo hi).map .d))
      | .tup xs => some (.d (.tup (cutD xs lo hi)))
      | .str z => if z.length ≤ sizeLine then some (.d (.str ⟨((z.cps.toList.drop (HT.sIx z.length 0 lo)).take (HT.sIx z.length z.length hi - HT.sIx z.length 0 lo)).toArray⟩)) else none
      | _ => none)
    | _, _ => none) = some r := e
  cases e1 : partD p.frz with
  | none => rw [e1] at e; cases e
  | some lo' =>
    cases e2 : partD t.frz with
    | none => rw [e1, e2] at e; cases e
    | some hi' =>
      rw [e1, e2] at e
      have elo := part_of e1 dp k1
      have ehi := part_of e2 dt k2
      subst elo ehi
      have sp : Sat T B H ((o, x) :: (p.shal, y) :: (t.shal, z) :: l) := by
        have t1 := shal_any sa.swap
        have t2 : Sat T B H ((t, z) :: (p.shal, y) :: (o, x) :: l) := t1.perm (by
          have p1 : ((p.shal, y) :: (o, x) :: (t, z) :: l).Perm ((o, x) :: (p.shal, y) :: (t, z) :: l) := .swap _ _ _
          have p2 : ((p.shal, y) :: (o, x) :: (t, z) :: l).Perm ((p.shal, y) :: (t, z) :: (o, x) :: l) := (List.Perm.swap _ _ _).cons _
          exact p2.trans (.swap _ _ _))
        have t3 := shal_any t2
        exact t3.perm (by
          have p1 : ((t.shal, z) :: (p.shal, y) :: (o, x) :: l).Perm ((t.shal, z) :: (o, x) :: (p.shal, y) :: l) := (List.Perm.swap _ _ _).cons _
          exact p1.trans ((List.Perm.swap _ _ _).trans ((List.Perm.swap _ _ _).cons _)))
      cases ea : o.frz with
      | lst xs =>
        rw [ea] at e
        injection e with e
        subst e
        obtain ⟨a, vs, rfl, ha, hl, s1⟩ := Sat.kidsL sp ea
        refine sl_list pins s σ H _ v vl vu lo' hi' sl Q I rx hs pl pu ⟨a, vs, rfl, by rw [hK]; exact ha, fun p' hp => q _ _ ?_⟩
        have s2 := SatH.sub (zip_cut hl (HT.sIx xs.length 0 lo') (HT.sIx xs.length xs.length hi' - HT.sIx xs.length 0 lo')) s1
        have : cutV vs lo' hi' = (vs.drop (HT.sIx xs.length 0 lo')).take (HT.sIx xs.length xs.length hi' - HT.sIx xs.length 0 lo') := by unfold cutV; rw [hl]
        rw [this]
        exact Sat.newL (os := (cutD xs lo' hi').map O.d) s2 (by unfold cutD; simp [hl]) hp
      | tup xs =>
        rw [ea] at e
        injection e with e
        subst e
        obtain ⟨a, vs, rfl, ha, hl, s1⟩ := Sat.kidsT sp ea
        have ec : cutV vs lo' hi' = (vs.drop (HT.sIx xs.length 0 lo')).take (HT.sIx xs.length xs.length hi' - HT.sIx xs.length 0 lo') := by unfold cutV; rw [hl]
        refine sl_tupA pins s σ H _ v vl vu lo' hi' sl Q I rx hs pl pu ⟨a, vs, rfl, by rw [hK]; exact ha, fun hw => q _ _ ?_, fun hw p' hp => q _ _ ?_⟩
        · have : cutD xs lo' hi' = xs := by
            unfold cutD
            rw [hl, hw.1, hw.2, List.drop_zero, ← hl]
            exact List.take_of_length_le (by omega)
          rw [this]
          exact Sat.dupT sp ea
        · have s2 := SatH.sub (zip_cut hl (HT.sIx xs.length 0 lo') (HT.sIx xs.length xs.length hi' - HT.sIx xs.length 0 lo')) s1
          rw [ec]
          exact Sat.newTd (xs := cutD xs lo' hi') s2 (by unfold cutD; simp [hl]) hp
      | str w =>
        rw [ea] at e
        have d1 := sa.read
        rw [ea] at d1
        have d1 : x = .str w := d1
        subst d1
        have e : (if w.length ≤ sizeLine then some (O.d (.str ⟨((w.cps.toList.drop (HT.sIx w.length 0 lo')).take (HT.sIx w.length w.length hi' - HT.sIx w.length 0 lo')).toArray⟩)) else none) = some r := e
        split at e
        · rename_i hz
          injection e with e
          subst e
          rw [shal_str ea] at q
          exact sl_str pins s σ H _ v vl vu lo' hi' sl Q I rx hs pl pu ⟨w, rfl, hz, q _ _ sp.str⟩
        · cases e
      | _ => rw [ea] at e; cases e
/-- x[::-1] -/
theorem opRev {x : V} {Q : VK} (hK : X.K = T.K) (h : relN T B revD true [x] H Q) : ∃ a xs, x = .ref a ∧ SqL X.K H a xs ∧ ∀ p, H p = none → Q (.ref p) (upd H p (.lst xs.reverse)) := by
  obtain ⟨o, l, r, sa, e, q⟩ := rel1 h
  rw [if_pos rfl] at q
  cases ea : o.frz with
  | lst xs =>
    rw [ea] at e
    injection e with e
    subst e
    obtain ⟨a, vs, rfl, ha, hl, s1⟩ := Sat.kidsL sa ea
    refine ⟨a, vs, rfl, by rw [hK]; exact ha, fun p hp => q _ _ ?_⟩
    have s2 : Sat T B H ((xs.reverse.map O.d).zip vs.reverse ++ (o.shal, V.ref a) :: l) := s1.perm (by
      refine List.Perm.append_right _ ?_
      have e : (xs.reverse.map O.d).zip vs.reverse = ((xs.map O.d).zip vs).reverse := by
        rw [List.map_reverse]
        exact (List.reverse_zipWith (f := Prod.mk) (by simpa using hl)).symm
      rw [e]
      exact (List.reverse_perm _).symm)
    exact Sat.newL (os := xs.reverse.map O.d) s2 (by simp [hl]) hp
  | _ => rw [ea] at e; cases e
theorem field_two {f : Str} : ∀ {ns : List Str} {xs : List D} {vs : List V} {d : D}, fieldD f ns xs = some d → xs.length = vs.length → ∃ (n : Nat) (w : V), xs[n]? = some d ∧ vs[n]? = some w ∧ (ns.zip vs).lookup f = some w
  | [], xs, vs, d, e, hl => by cases xs <;> cases e
  | n :: ns, [], vs, d, e, hl => by cases e
  | n :: ns, x :: xs, [], d, e, hl => by simp at hl
  | n :: ns, x :: xs, v :: vs, d, e, hl => by
    unfold fieldD at e
    split at e
    · rename_i hn
      injection e with e
      subst e hn
      exact ⟨0, v, rfl, rfl, by simp [List.lookup]⟩
    · rename_i hn
      obtain ⟨k, w, h1, h2, h3⟩ := field_two e (by simpa using hl)
      refine ⟨k + 1, w, by simpa using h1, by simpa using h2, ?_⟩
      rw [List.zip_cons_cons, List.lookup]
      have : (f == n) = false := by
        rw [beq_eq_false_iff_ne]
        exact fun z => hn z.symm
      rw [this]
      exact h3
/-- x.f -/
theorem opFld {C : Nat} {f : Str} {x : V} {Q : VK} (h : relN T B (fldD C f) true [x] H Q) (cl : Cls X.K (T.cls C) ∧ NoAttr X.K (T.cls C) f) : ∃ a C dx fs v, x = .ref a ∧ H a = some (.ins C dx fs) ∧ Cls X.K C ∧ NoAttr X.K C f ∧ fs.lookup f = some v ∧ Q v H := by
  obtain ⟨o, l, r, sa, e, q⟩ := rel1 h
  rw [if_pos rfl] at q
  cases ea : o.frz with
  | obj C' ns xs =>
    rw [ea] at e
    have e0 : (if C' = C then (fieldD f ns xs).map O.d else none) = some r := e
    clear e
    by_cases hc : C' = C
    case neg => rw [if_neg hc] at e0; cases e0
    rw [if_pos hc] at e0
    subst hc
    have e := e0
    obtain ⟨d, e1, e2⟩ := Option.map_eq_some_iff.mp e
    subst e2
    obtain ⟨a, dx, vs, rfl, ha, hn, hl, s1⟩ := Sat.kidsO sa ea
    obtain ⟨n, w, g1, g2, g3⟩ := field_two e1 hl
    obtain ⟨c1, c2⟩ := cl
    exact ⟨a, T.cls C', dx, ns.zip vs, w, rfl, ha, c1, c2, g3, q _ _ (SatH.pick (zip_get g1 g2) s1)⟩
  | _ => rw [ea] at e; cases e
end
end PV
/-! PV10: readings -/
namespace PV
open PySem PySem.Spec PyProof.Rows L2
section
variable {T : Tab} {B : Base} {W : WX} {σ : L2.St} {l m : List It1} {α β : Type} {H H' : Hp} {ρ ρ' : Env}
/-- an end of an evaluation: what is wanted of it -/
def RG (T : Tab) (B : Base) (W : WX) (σ : L2.St) (l : List It1) (r : Res α) (K : α → Env → Prop) : Prop := match r with
  | .ok a ρ => K a ρ
  | .exc C p ρ => ∀ d H its, At T B H ρ σ (its ++ l) → ExcIt T H C p d its → W (.ref (T.cls C)) d σ H
  | .bad => False
theorem RP.rg {r : Res O} {Q : VK} (h : RP T B W σ l r Q) : RG T B W σ l r fun o ρ => ∀ v H, At T B H ρ σ ((o, v) :: l) → Q v H := by
  cases r <;> exact h
theorem RG.rp {r : Res O} {Q : VK} (h : RG T B W σ l r fun o ρ => ∀ v H, At T B H ρ σ ((o, v) :: l) → Q v H) : RP T B W σ l r Q := by
  cases r <;> exact h
theorem RG.bind {r : Res α} {f : α → Env → Res β} {K : β → Env → Prop} (h : RG T B W σ l (r.bind f) K) : RG T B W σ l r fun a ρ => RG T B W σ l (f a ρ) K := by
  cases r <;> exact h
theorem RG.bnd {o : Option α} {f : α → Res β} {K : β → Env → Prop} (h : RG T B W σ l (bnd o f) K) : ∃ a, o = some a ∧ RG T B W σ l (f a) K := by
  cases o with
  | none => exact h.elim
  | some a => exact ⟨a, rfl, h⟩
theorem RG.of {o : Option α} {K : α → Env → Prop} (h : RG T B W σ l (Res.of o ρ) K) : ∃ a, o = some a ∧ K a ρ := by
  cases o with
  | none => exact h.elim
  | some a => exact ⟨a, rfl, h⟩
theorem RG.mono {r : Res α} {K K' : α → Env → Prop} (h : RG T B W σ l r K) (hK : ∀ a ρ, K a ρ → K' a ρ) : RG T B W σ l r K' := by
  cases r with
  | ok a ρ => exact hK a ρ h
  | exc C p ρ => exact h
  | bad => exact h
theorem At.keepR (a : At T B H ρ σ (m ++ l)) : At T B H ρ σ l := ⟨a.ok, by
  have s := a.sat
  have q : (envIts ρ σ ++ (m ++ l)).Perm (m ++ (envIts ρ σ ++ l)) := by
    rw [← List.append_assoc, ← List.append_assoc]
    exact List.perm_append_comm.append_right l
  exact SatH.dropL (s.perm q), a.pr⟩
theorem At.dropM {k : List It1} (a : At T B H ρ σ (k ++ (m ++ l))) : At T B H ρ σ (k ++ l) := by
  have q : (k ++ (m ++ l)).Perm (m ++ (k ++ l)) := by
    rw [← List.append_assoc, ← List.append_assoc]
    exact List.perm_append_comm.append_right l
  exact (a.perm q).keepR
theorem RG.more {r : Res α} {K : α → Env → Prop} (h : RG T B W σ l r K) : RG T B W σ (m ++ l) r K := by
  cases r with
  | ok a ρ => exact h
  | exc C p ρ => exact fun d H its a e => h d H its a.dropM e
  | bad => exact h
theorem RG.more1 {q : It1} {r : Res α} {K : α → Env → Prop} (h : RG T B W σ l r K) : RG T B W σ (q :: l) r K := RG.more (m := [q]) h
end
section
variable (T : Tab) (B : Base) (Φ : Phi) (W : WX)
def tE (se : SE) : TE := fun σ H Q => ∃ ρ l, At T B H ρ σ l ∧ RP T B W σ l (ev Φ se ρ) Q
/-- an operand -/
def tA (se : SE) : TE := fun σ H Q => ∃ ρ l, At T B H ρ σ l ∧ RG T B W σ l (evA Φ se ρ) fun a ρ' => ∀ v H', At T B H' ρ' σ (argIts a v ++ l) → ArgV σ a v → Q v H'
def tAs (ses : List SE) : TA := fun σ H Q => ∃ ρ l, At T B H ρ σ l ∧ RG T B W σ l (evAs Φ ses ρ) fun as ρ' => ∀ vs H', At T B H' ρ' σ (argItsL as vs ++ l) → ArgVs σ as vs → Q vs H'
def tL (ses : List SE) : TA := fun σ H Q => ∃ ρ l, At T B H ρ σ l ∧ RG T B W σ l (evL Φ ses ρ) fun os ρ' => ∀ vs H', os.length = vs.length → At T B H' ρ' σ (os.zip vs ++ l) → Q vs H'
/-- a test -/
def tT (se : SE) : TT := fun σ H Q => ∃ ρ l, At T B H ρ σ l ∧ RG T B W σ l (evC Φ se ρ) fun b ρ' => ∀ H', At T B H' ρ' σ l → Q b H'
def tAndT' (ses : List SE) : TT := fun σ H Q => ∃ ρ l, At T B H ρ σ l ∧ RG T B W σ l (evCand Φ ses ρ) fun b ρ' => ∀ H', At T B H' ρ' σ l → Q b H'
def tOrT' (ses : List SE) : TT := fun σ H Q => ∃ ρ l, At T B H ρ σ l ∧ RG T B W σ l (evCor Φ ses ρ) fun b ρ' => ∀ H', At T B H' ρ' σ l → Q b H'
def tAndE (ses : List SE) : TE := fun σ H Q => ∃ ρ l, At T B H ρ σ l ∧ RP T B W σ l (evAnd Φ ses ρ) Q
def tOrE (ses : List SE) : TE := fun σ H Q => ∃ ρ l, At T B H ρ σ l ∧ RP T B W σ l (evOr Φ ses ρ) Q
end
section
variable {X : Cx} {e : Expr} {es : List Expr}
theorem _root_.L2.PE.pv {t t' : TE} (h : PE X e t) (i : ∀ σ H Q, t' σ H Q → t σ H Q) : PE X e t' := ⟨fun pins s σ H Q I q => h.run pins s σ H Q I (i σ H Q q)⟩
theorem _root_.L2.PT.pv {t t' : TT} (h : PT X e t) (i : ∀ σ H Q, t' σ H Q → t σ H Q) : PT X e t' := ⟨fun pins s σ H Q I q => h.run pins s σ H Q I (i σ H Q q)⟩
theorem _root_.L2.PW.pv {t t' : TT} (h : PW X e t) (i : ∀ σ H Q, t' σ H Q → t σ H Q) : PW X e t' := ⟨fun wh pins s σ H Q I q => h.run wh pins s σ H Q I (i σ H Q q)⟩
theorem _root_.L2.PA.pv {t t' : TA} (h : PA X es t) (i : ∀ σ H Q, t' σ H Q → t σ H Q) : PA X es t' := ⟨fun pos pins s σ H Q I q => h.run pos pins s σ H Q I (i σ H Q q)⟩
end
section
variable {T : Tab} {B : Base} {Φ : Phi} {W : WX} {X : Cx} {e a b c : Expr} {es : List Expr} {se sa sb sc : SE} {ses : List SE} {pos : Pos} {i : Nat} {x : Str}
/-! ### names -/
theorem s_var (hN : X.N[i]? = some x) (hv : Vis X.env.scope x) (hd : (x == ("__debug__" : Str)) = false) (hc : (x == ("__classdict__" : Str)) = false) : PE X (.Name x pos) (tE T B Φ W (.var i)) :=
  (pe_var hN hv hd hc).pv fun σ H Q ⟨ρ, l, a, h⟩ => by
    have h : RG T B W σ l (bnd (slotE ρ i) fun o => .ok (.d o.frz) (ρ.set i (some (.d o.frz)))) fun o ρ => ∀ v H, At T B H ρ σ ((o, v) :: l) → Q v H := by rw [ev] at h; exact h.rg
    obtain ⟨o, eo, h⟩ := h.bnd
    obtain ⟨v, ev⟩ := a.ok.at eo
    have t := a.take eo ev
    have hi := slot_lt eo
    have t2 : At T B H (ρ.set i none) σ ((.d o.frz, v) :: (.d o.frz, v) :: l) := ⟨t.ok, ((t.sat.perm List.perm_middle).freeze.dup).perm (List.perm_middle.trans (List.perm_middle.cons _)).symm, t.pr⟩
    have t3 := t2.fill (i := i) (by unfold slotE; rw [List.getElem?_set_self hi]; rfl) (by simpa using hi) ev
    rw [List.set_set] at t3
    exact ⟨v, ev, h v H t3⟩
theorem s_mv (hN : X.N[i]? = some x) (hv : Vis X.env.scope x) (hd : (x == ("__debug__" : Str)) = false) (hc : (x == ("__classdict__" : Str)) = false) : PE X (.Name x pos) (tE T B Φ W (.mv i)) :=
  (pe_var hN hv hd hc).pv fun σ H Q ⟨ρ, l, a, h⟩ => by
    have h : RG T B W σ l (bnd (slotE ρ i) fun o => .ok o (ρ.set i none)) fun o ρ => ∀ v H, At T B H ρ σ ((o, v) :: l) → Q v H := by rw [ev] at h; exact h.rg
    obtain ⟨o, eo, h⟩ := h.bnd
    obtain ⟨v, ev⟩ := a.ok.at eo
    exact ⟨v, ev, h v H (a.take eo ev)⟩
theorem s_varA (hN : X.N[i]? = some x) (hv : Vis X.env.scope x) (hd : (x == ("__debug__" : Str)) = false) (hc : (x == ("__classdict__" : Str)) = false) : PE X (.Name x pos) (tA T B Φ W (.var i)) :=
  (pe_var hN hv hd hc).pv fun σ H Q ⟨ρ, l, a, h⟩ => by
    have h : RG T B W σ l (bnd (slotE ρ i) fun _ => Res.ok (.slot i) ρ) fun a ρ' => ∀ v H', At T B H' ρ' σ (argIts a v ++ l) → ArgV σ a v → Q v H' := by rw [evA] at h; exact h
    obtain ⟨o, eo, h⟩ := h.bnd
    obtain ⟨v, ev⟩ := a.ok.at eo
    exact ⟨v, ev, h v H a ev⟩
/-- an operand that is no name -/
theorem s_valA (h : PE X e (tE T B Φ W se)) (hs : ∀ ρ, evA Φ se ρ = (ev Φ se ρ).bind fun o ρ => .ok (.val o) ρ) : PE X e (tA T B Φ W se) :=
  h.pv fun σ H Q ⟨ρ, l, a, h⟩ => ⟨ρ, l, a, by
    rw [hs] at h
    refine RG.rp (h.bind.mono fun o ρ' k v H' q => ?_)
    exact k v H' q trivial⟩
/-! ### constants -/
theorem s_C {v : V} {d : D} (h : PE X e (tC v)) (hd : ∀ own hp, Dr T own hp d v) : PE X e (tE T B Φ W (.lit d)) :=
  h.pv fun σ H Q ⟨ρ, l, a, h⟩ => by
    have h : ∀ v H, At T B H ρ σ ((.d d, v) :: l) → Q v H := by rw [ev] at h; exact h
    exact h v H ⟨a.ok, (a.sat.lit hd).perm List.perm_middle.symm, a.pr⟩
theorem s_G {v : V} {d : D} {x : Str} (h : PE X e (tC v)) (hd : ∀ own hp, Dr T own hp d v) : PE X e (tE T B Φ W (.glo x d)) :=
  h.pv fun σ H Q ⟨ρ, l, a, h⟩ => by
    have h : ∀ v H, At T B H ρ σ ((.d d, v) :: l) → Q v H := by rw [ev] at h; exact h
    exact h v H ⟨a.ok, (a.sat.lit hd).perm List.perm_middle.symm, a.pr⟩
/-! ### argument lists -/
theorem s_As0 : PA X [] (tAs T B Φ W []) := pa_nil.pv fun σ H Q ⟨ρ, l, a, h⟩ => by
  have h : ∀ vs H', At T B H' ρ σ (argItsL [] vs ++ l) → ArgVs σ [] vs → Q vs H' := by rw [evAs] at h; exact h
  exact h [] H a trivial
theorem s_As1 (ha : PE X e (tA T B Φ W se)) (hs : PA X es (tAs T B Φ W ses)) (hst : starEach (e :: es) X.env = (false, eval e X.env) :: starEach es X.env) : PA X (e :: es) (tAs T B Φ W (se :: ses)) :=
  (pa_cons ha hs hst).pv fun σ H Q ⟨ρ, l, a, h⟩ => by
    rw [evAs] at h
    refine ⟨ρ, l, a, h.bind.mono fun a ρ1 k v H1 a1 av => ⟨ρ1, argIts a v ++ l, a1, RG.more (k.bind.mono fun as ρ2 k2 vs H2 a2 avs => k2 (v :: vs) H2 ?_ ⟨av, avs⟩)⟩⟩
    refine a2.perm ?_
    show (argItsL as vs ++ (argIts a v ++ l)).Perm ((argIts a v ++ argItsL as vs) ++ l)
    rw [← List.append_assoc]
    exact List.perm_append_comm.append_right l
theorem s_L0 : PA X [] (tL T B Φ W []) := pa_nil.pv fun σ H Q ⟨ρ, l, a, h⟩ => by
  have h : ∀ vs H', ([] : List O).length = vs.length → At T B H' ρ σ (([] : List O).zip vs ++ l) → Q vs H' := by rw [evL] at h; exact h
  exact h [] H rfl a
theorem s_L1 (ha : PE X e (tE T B Φ W se)) (hs : PA X es (tL T B Φ W ses)) (hst : starEach (e :: es) X.env = (false, eval e X.env) :: starEach es X.env) : PA X (e :: es) (tL T B Φ W (se :: ses)) :=
  (pa_cons ha hs hst).pv fun σ H Q ⟨ρ, l, a, h⟩ => by
    rw [evL] at h
    refine ⟨ρ, l, a, RG.rp (h.bind.mono fun o ρ1 k v H1 a1 => ⟨ρ1, (o, v) :: l, a1, RG.more1 (k.bind.mono fun os ρ2 k2 vs H2 hl a2 => k2 (v :: vs) H2 (by simp [hl]) ?_)⟩)⟩
    exact a2.perm List.perm_middle
/-! ### operations -/
/-- the operands stand: the operation by values -/
theorem rel_of {f : List D → Option O} {sh : Bool} {as : List Arg} {vs : List V} {σ : L2.St} {l : List It1} {H : Hp} {ρ : Env} {Q : VK} (h : RG T B W σ l (opR f sh as ρ) fun o ρ => ∀ v H, At T B H ρ σ ((o, v) :: l) → Q v H)
    (a : At T B H ρ σ (argItsL as vs ++ l)) (av : ArgVs σ as vs) : relN T B f sh vs H Q := opR_ok a av h.rp
theorem two_its {a b : Arg} {v w : V} {l : List It1} : (argIts b w ++ (argIts a v ++ l)).Perm (argItsL [a, b] [v, w] ++ l) := by
  show (argIts b w ++ (argIts a v ++ l)).Perm ((argIts a v ++ (argIts b w ++ [])) ++ l)
  rw [List.append_nil, ← List.append_assoc]
  exact List.perm_append_comm.append_right l
theorem one_its {a : Arg} {v : V} {l : List It1} : (argIts a v ++ l).Perm (argItsL [a] [v] ++ l) := by
  show (argIts a v ++ l).Perm ((argIts a v ++ []) ++ l)
  rw [List.append_nil]
theorem swap_its {p q l : List It1} : (p ++ (q ++ l)).Perm (q ++ (p ++ l)) := by
  rw [← List.append_assoc, ← List.append_assoc]
  exact List.perm_append_comm.append_right l
theorem three_its {a b c : Arg} {v w u : V} {l : List It1} : (argIts c u ++ (argIts b w ++ (argIts a v ++ l))).Perm (argItsL [a, b, c] [v, w, u] ++ l) := by
  show (argIts c u ++ (argIts b w ++ (argIts a v ++ l))).Perm ((argIts a v ++ (argIts b w ++ (argIts c u ++ []))) ++ l)
  rw [List.append_nil, List.append_assoc, List.append_assoc]
  have p1 : (argIts c u ++ (argIts b w ++ (argIts a v ++ l))).Perm (argIts c u ++ (argIts a v ++ (argIts b w ++ l))) := swap_its.append_left _
  have p2 : (argIts c u ++ (argIts a v ++ (argIts b w ++ l))).Perm (argIts a v ++ (argIts c u ++ (argIts b w ++ l))) := swap_its
  exact p1.trans (p2.trans (swap_its.append_left _))
/-- two operands, then the operation -/
theorem s_op2 {f : List D → Option O} {sh : Bool} {σ : L2.St} {l : List It1} {H : Hp} {ρ : Env} {Q : VK} (at_ : At T B H ρ σ l)
    (h : RG T B W σ l ((evA Φ sa ρ).bind fun x ρ => (evA Φ sb ρ).bind fun y ρ => opR f sh [x, y] ρ) fun o ρ => ∀ v H, At T B H ρ σ ((o, v) :: l) → Q v H) :
    tOp (fun x y H Q => relN T B f sh [x, y] H Q) (tA T B Φ W sa) (tA T B Φ W sb) σ H Q := by
  refine ⟨ρ, l, at_, h.bind.mono fun a ρ1 k v H1 a1 av => ⟨ρ1, argIts a v ++ l, a1, RG.more (k.bind.mono fun b ρ2 k2 w H2 a2 aw => ?_)⟩⟩
  exact rel_of (as := [a, b]) k2 (a2.perm two_its) ⟨av, aw, trivial⟩
theorem s_op1 {f : List D → Option O} {sh : Bool} {σ : L2.St} {l : List It1} {H : Hp} {ρ : Env} {Q : VK} (at_ : At T B H ρ σ l)
    (h : RG T B W σ l ((evA Φ sa ρ).bind fun x ρ => opR f sh [x] ρ) fun o ρ => ∀ v H, At T B H ρ σ ((o, v) :: l) → Q v H) :
    tUn (fun x H Q => relN T B f sh [x] H Q) (tA T B Φ W sa) σ H Q := by
  refine ⟨ρ, l, at_, h.bind.mono fun a ρ1 k v H1 a1 av => ?_⟩
  exact rel_of (as := [a]) k (a1.perm one_its) ⟨av, trivial⟩
theorem s_bi (hK : X.K = T.K) {k : Bi} (ha : PE X a (tA T B Φ W sa)) (hb : PE X b (tA T B Φ W sb)) : PE X (.BinOp a (biOp k) b pos) (tE T B Φ W (.bi k sa sb)) :=
  (pe_op (opBi (T := T) (B := B) hK k) ha hb).pv fun σ H Q ⟨ρ, l, at_, h⟩ => s_op2 at_ (by rw [ev] at h; exact h.rg)
theorem s_neg (ha : PE X a (tA T B Φ W sa)) : PE X (.UnaryOp .USub a pos) (tE T B Φ W (.un .neg sa)) :=
  (pe_un (opNeg (T := T) (B := B)) ha).pv fun σ H Q ⟨ρ, l, at_, h⟩ => s_op1 at_ (by rw [ev] at h; exact h.rg)
theorem s_cm (hK : X.K = T.K) (hu : X.A.units + 200 < cLine) {k : Cm} (ha : PE X a (tA T B Φ W sa)) (hb : PE X b (tA T B Φ W sb)) (hm : behindInMarks (cmOp k) b = false) : PE X (.Compare a [cmOp k] [b] pos) (tE T B Φ W (.cm k sa sb)) :=
  (pe_cmpR (opCm (T := T) (B := B) hK hu k) ha hb hm).pv fun σ H Q ⟨ρ, l, at_, h⟩ => s_op2 at_ (by rw [ev] at h; exact h.rg)
theorem s_rev (hK : X.K = T.K) {k : Nat} {p1 p2 p3 : Pos} (ha : PE X a (tA T B Φ W sa)) : PE X (.Subscript a (.Slice none none (some (.UnaryOp .USub (.Constant (.int 1) k p1) p2)) p3) pos) (tE T B Φ W (.rev sa)) :=
  (pe_revL ha).pv fun σ H Q ⟨ρ, l, at_, h⟩ => by
    obtain ⟨ρ', l', at', k⟩ := s_op1 (f := revD) (sh := true) at_ (by rw [ev] at h; exact h.rg)
    exact ⟨ρ', l', at', k.mono fun a ρ1 k v H1 a1 av => opRev hK (k v H1 a1 av)⟩
/-! ### displays -/
theorem mkT_ok {os : List O} {vs : List V} {p : Addr} {H : Hp} {l : List It1} (s : Sat T B H (os.zip vs ++ l)) (hl : os.length = vs.length) (n : H p = none) : Sat T B (upd H p (.tup vs)) ((mkT os, .ref p) :: l) := by
  have key : ∀ {os : List O} {ds : List D}, mkT.allD os = some ds → os = ds.map O.d := by
    intro os
    induction os with
    | nil => intro ds e; injection e with e; subst e; rfl
    | cons o os ih =>
      intro ds e
      cases o with
      | d x =>
        have e : (mkT.allD os).map (x :: ·) = some ds := e
        obtain ⟨r, e1, e2⟩ := Option.map_eq_some_iff.mp e
        subst e2
        rw [ih e1]; rfl
      | _ => cases e
  unfold mkT
  split
  · rename_i ds e
    have := key e
    subst this
    exact Sat.newTd s (by simpa using hl) n
  · exact Sat.newT s hl n
theorem s_tup {k : Nat} (hz : ses.length ≤ sizeLine) (h : PA X es (tL T B Φ W ses)) : PE X (.Tuple es k pos) (tE T B Φ W (.tup ses)) :=
  (pe_tup h).pv fun σ H Q ⟨ρ, l, at_, h⟩ => by
    have h : RG T B W σ l ((evL Φ ses ρ).bind fun os ρ => .ok (mkT os) ρ) fun o ρ => ∀ v H, At T B H ρ σ ((o, v) :: l) → Q v H := by rw [ev] at h; exact h.rg
    have len : ∀ {ses : List SE} {ρ : Env} {os : List O} {ρ' : Env}, evL Φ ses ρ = .ok os ρ' → os.length = ses.length := by
      intro ses
      induction ses with
      | nil => intro ρ os ρ' e; rw [evL] at e; injection e with e; subst e; rfl
      | cons se ses ih =>
        intro ρ os ρ' e
        rw [evL] at e
        obtain ⟨o, ρ1, _, e⟩ := Res.bind_of e
        obtain ⟨os', ρ2, e1, e⟩ := Res.bind_of e
        injection e with e
        subst e
        simp [ih e1]
    refine ⟨ρ, l, at_, ?_⟩
    have h := h.bind
    cases e : evL Φ ses ρ with
    | bad => rw [e] at h; exact h
    | exc C p ρ' => rw [e] at h; exact h
    | ok os ρ' =>
      rw [e] at h
      have h : ∀ v H, At T B H ρ' σ ((mkT os, v) :: l) → Q v H := h
      intro vs H1 hl a1
      refine ⟨by rw [← hl, len e]; exact hz, fun p hp => h _ _ ⟨a1.ok, ?_, a1.pr⟩⟩
      have s1 : Sat T B H1 (os.zip vs ++ (envIts ρ' σ ++ l)) := a1.sat.perm (by
        rw [← List.append_assoc, ← List.append_assoc]
        exact List.perm_append_comm.append_right l)
      exact (mkT_ok s1 hl hp).perm List.perm_middle.symm
theorem s_lst (hz : ses.length ≤ sizeLine) (h : PA X es (tL T B Φ W ses)) : PE X (.List es pos) (tE T B Φ W (.lst ses)) :=
  (pe_lst h).pv fun σ H Q ⟨ρ, l, at_, h⟩ => by
    have h : RG T B W σ l ((evL Φ ses ρ).bind fun os ρ => .ok (O.lst os) ρ) fun o ρ => ∀ v H, At T B H ρ σ ((o, v) :: l) → Q v H := by rw [ev] at h; exact h.rg
    have len : ∀ {ses : List SE} {ρ : Env} {os : List O} {ρ' : Env}, evL Φ ses ρ = .ok os ρ' → os.length = ses.length := by
      intro ses
      induction ses with
      | nil => intro ρ os ρ' e; rw [evL] at e; injection e with e; subst e; rfl
      | cons se ses ih =>
        intro ρ os ρ' e
        rw [evL] at e
        obtain ⟨o, ρ1, _, e⟩ := Res.bind_of e
        obtain ⟨os', ρ2, e1, e⟩ := Res.bind_of e
        injection e with e
        subst e
        simp [ih e1]
    refine ⟨ρ, l, at_, ?_⟩
    have h := h.bind
    cases e : evL Φ ses ρ with
    | bad => rw [e] at h; exact h
    | exc C p ρ' => rw [e] at h; exact h
    | ok os ρ' =>
      rw [e] at h
      have h : ∀ v H, At T B H ρ' σ ((.lst os, v) :: l) → Q v H := h
      intro vs H1 hl a1
      refine ⟨by rw [← hl, len e]; exact hz, fun p hp => h _ _ ⟨a1.ok, ?_, a1.pr⟩⟩
      have s1 : Sat T B H1 (os.zip vs ++ (envIts ρ' σ ++ l)) := a1.sat.perm (by
        rw [← List.append_assoc, ← List.append_assoc]
        exact List.perm_append_comm.append_right l)
      exact (Sat.newL s1 hl hp).perm List.perm_middle.symm
end
end PV
/-! PV11: truth, tests, and, or, if, slices -/
namespace PV
open PySem PySem.Spec PyProof.Rows L2
section
variable {T : Tab} {B : Base} {Φ : Phi} {W : WX} {X : Cx} {e a b c : Expr} {es : List Expr} {se sa sb sc : SE} {ses : List SE} {pos : Pos} {i : Nat} {x : Str}
theorem keysOf_len : ∀ {ks : List D} {js : List Key}, keysOf ks = some js → js.length = ks.length
  | [], js, e => by injection e with e; subst e; rfl
  | k :: ks, js, e => by
    unfold keysOf at e
    cases e1 : keyOf k with
    | none => rw [e1] at e; cases e
    | some kk =>
      cases e2 : keysOf ks with
      | none => rw [e1, e2] at e; cases e
      | some r' =>
        rw [e1, e2] at e
        injection e with e
        subst e
        simp [keysOf_len e2]
def rTru (T : Tab) (B : Base) : V → Hp → (Bool → Hp → Prop) → Prop := fun x H Q => ∃ o l k, Sat T B H ((o, x) :: l) ∧ truD o.frz = some k ∧ Q k H
theorem tru_pv (hK : X.K = T.K) : TruR X (rTru T B) := by
  intro pins s σ H x v Q I rx h
  obtain ⟨o, l, k, sa, e, q⟩ := h
  have d := sa.read
  cases ea : o.frz with
  | non =>
    rw [ea] at d e
    have d : x = .non := d
    subst d
    injection e with e
    subst e
    exact tru_ok pins s σ H _ v Q I rx ⟨false, rfl, q⟩
  | bl k' =>
    rw [ea] at d e
    have d : x = .bl k' := d
    subst d
    injection e with e
    subst e
    exact tru_ok pins s σ H _ v Q I rx ⟨k', rfl, q⟩
  | int i =>
    rw [ea] at d e
    have d : x = .int i := d
    subst d
    injection e with e
    subst e
    exact tru_ok pins s σ H _ v Q I rx ⟨_, rfl, q⟩
  | str z =>
    rw [ea] at d e
    have d : x = .str z := d
    subst d
    have e : (if z.length ≤ sizeLine then some ((z.length : Int) != 0) else none) = some k := e
    split at e
    · rename_i hz
      injection e with e
      subst e
      exact tru_ok pins s σ H _ v Q I rx ⟨_, ⟨hz, rfl⟩, q⟩
    · cases e
  | lst xs =>
    rw [ea] at e
    injection e with e
    subst e
    obtain ⟨a, vs, rfl, ha, hl, _⟩ := Sat.kidsL sa ea
    refine tru_ok pins s σ H _ v Q I rx ⟨_, .inl ⟨vs, by rw [hK]; exact ha, rfl⟩, ?_⟩
    have : xs.isEmpty = vs.isEmpty := by cases xs <;> cases vs <;> first | rfl | simp at hl
    rw [← this]; exact q
  | tup xs =>
    rw [ea] at e
    injection e with e
    subst e
    obtain ⟨a, vs, rfl, ha, hl, _⟩ := Sat.kidsT sa ea
    refine tru_ok pins s σ H _ v Q I rx ⟨_, .inr (.inl ⟨vs, by rw [hK]; exact ha, rfl⟩), ?_⟩
    have : xs.isEmpty = vs.isEmpty := by cases xs <;> cases vs <;> first | rfl | simp at hl
    rw [← this]; exact q
  | dic ks ds =>
    rw [ea] at e d
    have e : (if (ks.all fun k => (keyOf k).isSome) = true then some (!ks.isEmpty) else none) = some k := e
    split at e
    · rename_i hk
      injection e with e
      subst e
      obtain ⟨a, ws, rfl, dr, dl⟩ := drDic sa d
      obtain rfl : v = Value.ref a := rx
      rcases dr with ⟨js, q1, rd, q3⟩ | ⟨js, q1, rd, q3⟩
      · refine d_truth I rd fun s' I' => ⟨H, I', ?_⟩
        have hl := keysOf_len q1
        have : ks.isEmpty = (js.zip ws).isEmpty := by
          cases ks <;> cases js <;> cases ws <;> first | rfl | simp at hl q3
        rw [← this]; exact q
      · cases ks with
        | nil =>
          injection q1 with q1
          subst q1
          obtain ⟨dd, hd⟩ := dt_emptyK I rd
          exact wpAny_truthy_dict hd dd (by simp) ⟨H, I.tok _, q⟩
        | cons j ks =>
          have h1 := tkeys_all q1 j List.mem_cons_self
          have h2 := List.all_eq_true.mp hk j List.mem_cons_self
          obtain ⟨jj, ej⟩ := Option.isSome_iff_exists.mp h2
          rw [tkey_no ej] at h1; cases h1
    · cases e
  | obj C ns xs => rw [ea] at e; cases e
  | exc C p => rw [ea] at e; cases e
/-- a value's truth -/
theorem rtru_of {σ : L2.St} {l : List It1} {H : Hp} {ρ : Env} {v : V} {Q : Bool → Hp → Prop} {α : Arg} {β : Type} {f : Bool → Env → Res β} {K : β → Env → Prop} (at_ : At T B H ρ σ (argIts α v ++ l)) (av : ArgV σ α v)
    (h : RG T B W σ l ((fetch α ρ).bind fun o ρ => (Res.of (truD o.frz) ρ).bind fun b ρ => f b (back α o ρ)) K) (q : ∀ b ρ', At T B H ρ' σ l → RG T B W σ l (f b ρ') K → Q b H) : rTru T B v H Q := by
  have h := h.bind
  cases e : fetch α ρ with
  | bad => rw [e] at h; exact h.elim
  | exc C p ρ' =>
    cases α with
    | val o => cases e
    | slot i =>
      have e : bnd (slotE ρ i) (fun o => Res.ok o (fetch.taken o i ρ)) = .exc C p ρ' := e
      cases q : slotE ρ i <;> rw [q] at e <;> cases e
  | ok o ρ1 =>
    rw [e] at h
    have h : RG T B W σ l ((Res.of (truD o.frz) ρ1).bind fun b ρ => f b (back α o ρ)) K := h
    obtain ⟨b, eb, h⟩ := h.bind.of
    have a1 := fetch_at at_ av e
    exact ⟨o, envIts ρ1 σ ++ l, b, a1.sat.perm List.perm_middle, eb, q b _ (back_at a1 av) h⟩
def isPlainTest : Expr → Bool
  | .UnaryOp .Not _ _ => false
  | .BoolOp _ _ _ => false
  | .IfExp _ _ _ _ => false
  | .Compare _ _ _ _ => false
  | _ => true
theorem plainTest_ok {e : Expr} {env : PySem.Env} (h : isPlainTest e = true) (whole : Sem Value) : PySem.isTrue e env whole = (do let v ← whole; standAt e.pos; holding [v] (truthy v)) := by
  cases e with
  | UnaryOp op x p => cases op <;> first | rfl | cases h
  | _ => first | rfl | cases h
theorem s_test (hK : X.K = T.K) (ha : PE X a (tA T B Φ W sa)) (he : isPlainTest a = true) (hs : ∀ ρ, evC Φ sa ρ = (evA Φ sa ρ).bind fun a ρ => (fetch a ρ).bind fun o ρ => (Res.of (truD o.frz) ρ).bind fun b ρ => .ok b (back a o ρ)) : PT X a (tT T B Φ W sa) := by
  refine ⟨fun pins s σ H Q I ⟨ρ, l, at_, h⟩ => ?_⟩
  rw [hs] at h
  have h1 : tA T B Φ W sa σ H fun x H' => rTru T B x H' Q := ⟨ρ, l, at_, h.bind.mono fun α ρ1 k v H1 a1 av => rtru_of a1 av k fun b ρ' a2 k2 => k2 H1 a2⟩
  exact isTrue_plain (thn (ha.run pins s σ H _ I h1) fun v s1 ⟨x, H1, I1, r1, q1⟩ => tru_pv hK pins s1 σ H1 x v Q I1 r1 q1) (plainTest_ok he _)
theorem s_not (hK : X.K = T.K) (ha : PE X a (tA T B Φ W sa)) : PE X (.UnaryOp .Not a pos) (tE T B Φ W (.bnot sa)) := by
  refine ⟨fun pins s σ H Q I ⟨ρ, l, at_, h⟩ => ?_⟩
  rw [ev] at h
  have h := h.rg
  have h1 : tA T B Φ W sa σ H fun x H' => rTru T B x H' fun b H2 => Q (.bl (!b)) H2 := ⟨ρ, l, at_, h.bind.mono fun α ρ1 k v H1 a1 av => rtru_of a1 av k fun b ρ' a2 k2 => k2 _ H1 ⟨a2.ok, a2.sat.bl.perm List.perm_middle.symm, a2.pr⟩⟩
  refine UnaryOp_ (thn (ha.run pins s σ H _ I h1) fun v s1 ⟨x, H1, I1, r1, q1⟩ => not_of ?_)
  exact thn (tru_pv hK pins s1 σ H1 x v _ I1 r1 q1) fun c s2 ⟨H2, I2, q2⟩ => ⟨.bl (!c), H2, I2, rfl, q2⟩
theorem s_notT (ha : PT X a (tT T B Φ W sa)) : PT X (.UnaryOp .Not a pos) (tT T B Φ W (.bnot sa)) :=
  (pt_not ha).pv fun σ H Q ⟨ρ, l, at_, h⟩ => by
    rw [evC] at h
    exact ⟨ρ, l, at_, h.bind.mono fun b ρ1 k H1 a1 => k H1 a1⟩
/-- a comparison as a test -/
theorem bl_of {o : O} {v : V} {H : Hp} {m : List It1} {b : Bool} (s : Sat T B H ((o, v) :: m)) (e : boolO o = some b) : v = .bl b := by
  have d := s.read
  cases o with
  | d x =>
    cases x with
    | bl c => injection e with e; subst e; exact d
    | _ => cases e
  | _ => cases e
theorem RG.eq {T : Tab} {B : Base} {W : WX} {σ : L2.St} {l : List It1} {α : Type} {r : Res α} {K : α → Env → Prop} (h : RG T B W σ l r K) : RG T B W σ l r fun a ρ => r = .ok a ρ ∧ K a ρ := by
  cases r with
  | ok a ρ => exact ⟨rfl, h⟩
  | exc C p ρ => exact h
  | bad => exact h
theorem cm_bl {k : Cm} {as : List Arg} {sh : Bool} {ρ ρ' : Env} {o : O} (e : opR (cmD k) sh as ρ = .ok o ρ') : ∃ b, o = .d (.bl b) := by
  unfold opR at e
  obtain ⟨os, ρ1, _, e⟩ := Res.bind_of e
  obtain ⟨r, ρ2, e1, e⟩ := Res.bind_of e
  injection e with e _
  subst e
  cases q : cmD k (os.map O.frz) with
  | none => rw [q] at e1; cases e1
  | some r' =>
    rw [q] at e1
    injection e1 with e1 _
    subst e1
    match hos : os.map O.frz, q with
    | [x, y], q =>
      obtain ⟨b, _, h⟩ := Option.map_eq_some_iff.mp (show (cmpD k x y).map (fun b => O.d (.bl b)) = some r' from q)
      exact ⟨b, h.symm⟩
    | [], q => cases q
    | [_], q => cases q
    | _ :: _ :: _ :: _, q => cases q
theorem evC_def {se : SE} {ρ : Env} (h : evC Φ se ρ = (evA Φ se ρ).bind fun a ρ => (fetch a ρ).bind fun o ρ => (Res.of (truD o.frz) ρ).bind fun b ρ => .ok b (back a o ρ)) (h2 : evA Φ se ρ = (ev Φ se ρ).bind fun o ρ => .ok (.val o) ρ) :
    evC Φ se ρ = (ev Φ se ρ).bind fun o ρ => (Res.of (truD o.frz) ρ).bind fun b ρ => .ok b ρ := by
  rw [h, h2]
  generalize ev Φ se ρ = r
  cases r <;> rfl
theorem At.bl1 {σ : L2.St} {l : List It1} {H : Hp} {ρ : Env} {v : V} {b : Bool} (a : At T B H ρ σ ((.d (.bl b), v) :: l)) : v = .bl b := by
  have d := (SatH.perm a.sat List.perm_middle).read
  exact d
theorem s_cmT (hK : X.K = T.K) (hu : X.A.units + 200 < cLine) {k : Cm} (ha : PE X a (tA T B Φ W sa)) (hb : PE X b (tA T B Φ W sb)) (hm : behindInMarks (cmOp k) b = false) : PT X (.Compare a [cmOp k] [b] pos) (tT T B Φ W (.cm k sa sb)) :=
  (pt_cmpR (opCm (T := T) (B := B) hK hu k) ha hb hm).pv fun σ H Q ⟨ρ, l, at_, h⟩ => by
    rw [evC_def (by rw [evC]; all_goals simp) (by rw [evA]; all_goals simp), ev] at h
    refine s_op2 (Q := fun x H' => ∃ k, x = .bl k ∧ Q k H') at_ (h.bind.eq.mono fun o ρ1 k2 v H1 a1 => ?_)
    obtain ⟨ee, k2⟩ := k2
    obtain ⟨_, _, _, ee⟩ := Res.bind_of ee
    obtain ⟨_, _, _, ee⟩ := Res.bind_of ee
    obtain ⟨b, eb⟩ := cm_bl ee
    subst eb
    have k2 : ∀ H', At T B H' ρ1 σ l → Q b H' := k2
    exact ⟨b, a1.bl1, k2 H1 a1.drop⟩
/-- a op1 b op2 c -/
theorem s_cm2' (hK : X.K = T.K) (hu : X.A.units + 200 < cLine) {k j : Cm} {σ : L2.St} {l : List It1} {H : Hp} {ρ : Env} {Q : VK} (at_ : At T B H ρ σ l)
    (h : RG T B W σ l (ev Φ (.cm2 k j sa sb sc) ρ) fun o ρ => ∀ v H, At T B H ρ σ ((o, v) :: l) → Q v H) :
    tChain (fun x y H Q => relN T B (cmD k) false [x, y] H Q) (fun x y H Q => relN T B (cmD j) false [x, y] H Q) (tA T B Φ W sa) (tA T B Φ W sb) (tA T B Φ W sc) σ H Q := by
  rw [ev] at h
  refine ⟨ρ, l, at_, h.bind.mono fun α ρ1 k1 v H1 a1 av => ⟨ρ1, argIts α v ++ l, a1, RG.more (k1.bind.mono fun β ρ2 k2 w H2 a2 aw => ?_)⟩⟩
  obtain ⟨_, ep, k2⟩ := k2.bnd
  have dup : At T B H2 ρ2 σ (argItsL [α, β] [v, w] ++ (argIts β w ++ l)) := by
    cases β with
    | slot i => exact a2.perm two_its
    | val o =>
      cases o with
      | d x =>
        have s : At T B H2 ρ2 σ ((.d x, w) :: (argIts α v ++ l)) := a2
        have s2 : At T B H2 ρ2 σ ((.d x, w) :: (.d x, w) :: (argIts α v ++ l)) := ⟨s.ok, ((SatH.perm s.sat List.perm_middle).dup).perm (List.perm_middle.trans (List.perm_middle.cons _)).symm, s.pr⟩
        refine s2.perm ?_
        show (((O.d x, w)) :: (O.d x, w) :: (argIts α v ++ l)).Perm ((argIts α v ++ ([(O.d x, w)] ++ [])) ++ ([(O.d x, w)] ++ l))
        have p1 : (((O.d x, w)) :: (O.d x, w) :: (argIts α v ++ l)).Perm ((O.d x, w) :: (argIts α v ++ (O.d x, w) :: l)) := (List.perm_middle.symm).cons _
        refine p1.trans ?_
        rw [List.append_nil, List.append_assoc]
        exact List.perm_middle.symm
      | _ => cases ep
  refine rel_of (as := [α, β]) (l := argIts β w ++ l) (RG.more (k2.bind.eq.mono fun o ρ3 k3 u H3 a3 => ?_)) dup ⟨av, aw, trivial⟩
  obtain ⟨ee, k3⟩ := k3
  obtain ⟨b, eb⟩ := cm_bl ee
  subst eb
  refine ⟨b, a3.bl1, ?_⟩
  obtain ⟨t, et, k3⟩ := k3.bnd
  injection et with et
  subst et
  have a4 := a3.drop
  cases b with
  | false =>
    have k3 : ∀ v H, At T B H ρ3 σ ((.d (.bl false), v) :: l) → Q v H := k3
    rw [if_neg Bool.false_ne_true]
    have a5 := a4.keepR
    exact k3 _ _ ⟨a5.ok, a5.sat.bl.perm List.perm_middle.symm, a5.pr⟩
  | true =>
    have k3 : RG T B W σ l ((evA Φ sc ρ3).bind fun z ρ => opR (cmD j) false [β, z] ρ) fun o ρ => ∀ v H, At T B H ρ σ ((o, v) :: l) → Q v H := k3
    rw [if_pos rfl]
    refine ⟨ρ3, argIts β w ++ l, a4, RG.more (k3.bind.mono fun γ ρ4 k4 z H4 a6 az => ?_)⟩
    exact rel_of (as := [β, γ]) k4 (a6.perm two_its) ⟨aw, az, trivial⟩
theorem s_cm2 (hK : X.K = T.K) (hu : X.A.units + 200 < cLine) {k j : Cm} (ha : PE X a (tA T B Φ W sa)) (hb : PE X b (tA T B Φ W sb)) (hc : PE X c (tA T B Φ W sc)) (hm : lastMarks [cmOp k, cmOp j] [b, c] = false) : PE X (.Compare a [cmOp k, cmOp j] [b, c] pos) (tE T B Φ W (.cm2 k j sa sb sc)) :=
  (pe_chain (opCm (T := T) (B := B) hK hu k) (opCm (T := T) (B := B) hK hu j) ha hb hc hm).pv fun σ H Q ⟨ρ, l, at_, h⟩ => s_cm2' hK hu at_ h.rg
theorem s_cm2T (hK : X.K = T.K) (hu : X.A.units + 200 < cLine) {k j : Cm} (ha : PE X a (tA T B Φ W sa)) (hb : PE X b (tA T B Φ W sb)) (hc : PE X c (tA T B Φ W sc)) (hm : lastMarks [cmOp k, cmOp j] [b, c] = false) : PT X (.Compare a [cmOp k, cmOp j] [b, c] pos) (tT T B Φ W (.cm2 k j sa sb sc)) :=
  (pt_chain (opCm (T := T) (B := B) hK hu k) (opCm (T := T) (B := B) hK hu j) ha hb hc hm).pv fun σ H Q ⟨ρ, l, at_, h⟩ => by
    rw [evC_def (by rw [evC]; all_goals simp) (by rw [evA]; all_goals simp)] at h
    refine s_cm2' (Q := fun x H' => ∃ k, x = .bl k ∧ Q k H') hK hu at_ (h.bind.eq.mono fun o ρ1 k2 v H1 a1 => ?_)
    obtain ⟨ee, k2⟩ := k2
    have : ∃ b, o = .d (.bl b) := by
      rw [ev] at ee
      obtain ⟨_, _, _, ee⟩ := Res.bind_of ee
      obtain ⟨y, ρy, _, ee⟩ := Res.bind_of ee
      cases q : plainA y with
      | none => rw [q] at ee; cases ee
      | some _ =>
        rw [q] at ee
        obtain ⟨r, ρr, _, ee⟩ := Res.bind_of ee
        cases q2 : boolO r with
        | none => rw [q2] at ee; cases ee
        | some t =>
          rw [q2] at ee
          cases t with
          | false => injection ee with ee; exact ⟨false, ee.symm⟩
          | true =>
            obtain ⟨_, _, _, ee⟩ := Res.bind_of (show ((evA Φ sc ρr).bind fun z ρ => opR (cmD j) false [y, z] ρ) = .ok o ρ1 from ee)
            exact cm_bl ee
    obtain ⟨b, eb⟩ := this
    subst eb
    have k2 : ∀ H', At T B H' ρ1 σ l → Q b H' := k2
    exact ⟨b, a1.bl1, k2 H1 a1.drop⟩
/-! ### and, or, if -/
theorem s_and1 (h : PE X a (tE T B Φ W sa)) : PE X (.BoolOp .And [a] pos) (tAndE T B Φ W [sa]) := (pe_one h).pv fun σ H Q ⟨ρ, l, at_, h⟩ => ⟨ρ, l, at_, by rw [evAnd] at h; exact h⟩
theorem s_or1 (h : PE X a (tE T B Φ W sa)) : PE X (.BoolOp .Or [a] pos) (tOrE T B Φ W [sa]) := (pe_one h).pv fun σ H Q ⟨ρ, l, at_, h⟩ => ⟨ρ, l, at_, by rw [evOr] at h; exact h⟩
theorem At.blR {σ : L2.St} {l : List It1} {H : Hp} {ρ : Env} {b : Bool} (a : At T B H ρ σ l) : At T B H ρ σ ((.d (.bl b), .bl b) :: l) := ⟨a.ok, a.sat.bl.perm List.perm_middle.symm, a.pr⟩
theorem At.blO {σ : L2.St} {l : List It1} {H : Hp} {ρ : Env} {o : O} {v : V} {b : Bool} (a : At T B H ρ σ ((o, v) :: l)) (e : boolO o = some b) : v = .bl b := bl_of (SatH.perm a.sat List.perm_middle) e
theorem s_and {sb : SE} (ha : PE X a (tE T B Φ W sa)) (hb : PE X (.BoolOp .And (b :: es) pos) (tAndE T B Φ W (sb :: ses))) : PE X (.BoolOp .And (a :: b :: es) pos) (tAndE T B Φ W (sa :: sb :: ses)) :=
  (pe_and ha hb).pv fun σ H Q ⟨ρ, l, at_, h⟩ => by
    rw [evAnd] at h
    · refine ⟨ρ, l, at_, RG.rp (h.rg.bind.mono fun o ρ1 k v H1 a1 => ?_)⟩
      obtain ⟨t, et, k⟩ := k.bnd
      refine ⟨t, a1.blO et, ?_⟩
      cases t with
      | true => rw [if_pos rfl]; exact ⟨ρ1, l, a1.drop, RG.rp k⟩
      | false =>
        have k : ∀ v H, At T B H ρ1 σ ((.d (.bl false), v) :: l) → Q v H := k
        rw [if_neg Bool.false_ne_true]
        exact k _ _ a1.drop.blR
    all_goals simp
theorem s_or {sb : SE} (ha : PE X a (tE T B Φ W sa)) (hb : PE X (.BoolOp .Or (b :: es) pos) (tOrE T B Φ W (sb :: ses))) : PE X (.BoolOp .Or (a :: b :: es) pos) (tOrE T B Φ W (sa :: sb :: ses)) :=
  (pe_or ha hb).pv fun σ H Q ⟨ρ, l, at_, h⟩ => by
    rw [evOr] at h
    · refine ⟨ρ, l, at_, RG.rp (h.rg.bind.mono fun o ρ1 k v H1 a1 => ?_)⟩
      obtain ⟨t, et, k⟩ := k.bnd
      refine ⟨t, a1.blO et, ?_⟩
      cases t with
      | false => rw [if_neg Bool.false_ne_true]; exact ⟨ρ1, l, a1.drop, RG.rp k⟩
      | true =>
        have k : ∀ v H, At T B H ρ1 σ ((.d (.bl true), v) :: l) → Q v H := k
        rw [if_pos rfl]
        exact k _ _ a1.drop.blR
    all_goals simp
theorem s_andT1 (h : PT X a (tT T B Φ W sa)) : PW X (.BoolOp .And [a] pos) (tAndT' T B Φ W [sa]) := (pw_and1 h).pv fun σ H Q ⟨ρ, l, at_, h⟩ => ⟨ρ, l, at_, by
  rw [evCand] at h
  refine h.bind.mono fun b ρ1 k H1 a1 => ?_
  cases b with
  | true =>
    have k : RG T B W σ l (evCand Φ [] ρ1) fun b ρ' => ∀ H', At T B H' ρ' σ l → Q b H' := k
    rw [evCand] at k
    exact k H1 a1
  | false => exact k H1 a1⟩
theorem s_orT1 (h : PT X a (tT T B Φ W sa)) : PW X (.BoolOp .Or [a] pos) (tOrT' T B Φ W [sa]) := (pw_or1 h).pv fun σ H Q ⟨ρ, l, at_, h⟩ => ⟨ρ, l, at_, by
  rw [evCor] at h
  refine h.bind.mono fun b ρ1 k H1 a1 => ?_
  cases b with
  | false =>
    have k : RG T B W σ l (evCor Φ [] ρ1) fun b ρ' => ∀ H', At T B H' ρ' σ l → Q b H' := k
    rw [evCor] at k
    exact k H1 a1
  | true => exact k H1 a1⟩
theorem s_andT {sb : SE} (ha : PT X a (tT T B Φ W sa)) (hb : PW X (.BoolOp .And (b :: es) pos) (tAndT' T B Φ W (sb :: ses))) : PW X (.BoolOp .And (a :: b :: es) pos) (tAndT' T B Φ W (sa :: sb :: ses)) :=
  (pw_and ha hb).pv fun σ H Q ⟨ρ, l, at_, h⟩ => by
    rw [evCand] at h
    refine ⟨ρ, l, at_, h.bind.mono fun t ρ1 k H1 a1 => ?_⟩
    cases t with
    | true => rw [if_pos rfl]; exact ⟨ρ1, l, a1, k⟩
    | false => rw [if_neg Bool.false_ne_true]; exact k H1 a1
theorem s_orT {sb : SE} (ha : PT X a (tT T B Φ W sa)) (hb : PW X (.BoolOp .Or (b :: es) pos) (tOrT' T B Φ W (sb :: ses))) : PW X (.BoolOp .Or (a :: b :: es) pos) (tOrT' T B Φ W (sa :: sb :: ses)) :=
  (pw_or ha hb).pv fun σ H Q ⟨ρ, l, at_, h⟩ => by
    rw [evCor] at h
    refine ⟨ρ, l, at_, h.bind.mono fun t ρ1 k H1 a1 => ?_⟩
    cases t with
    | false => rw [if_neg Bool.false_ne_true]; exact ⟨ρ1, l, a1, k⟩
    | true => rw [if_pos rfl]; exact k H1 a1
theorem s_bandT (h : PW X (.BoolOp .And es pos) (tAndT' T B Φ W ses)) : PT X (.BoolOp .And es pos) (tT T B Φ W (.band ses)) := h.pt.pv fun σ H Q ⟨ρ, l, at_, h⟩ => ⟨ρ, l, at_, by rw [evC] at h; exact h⟩
theorem s_borT (h : PW X (.BoolOp .Or es pos) (tOrT' T B Φ W ses)) : PT X (.BoolOp .Or es pos) (tT T B Φ W (.bor ses)) := h.pt.pv fun σ H Q ⟨ρ, l, at_, h⟩ => ⟨ρ, l, at_, by rw [evC] at h; exact h⟩
theorem s_band (h : PE X (.BoolOp .And es pos) (tAndE T B Φ W ses)) : PE X (.BoolOp .And es pos) (tE T B Φ W (.band ses)) := h.pv fun σ H Q ⟨ρ, l, at_, h⟩ => ⟨ρ, l, at_, by rw [ev] at h; exact h⟩
theorem s_bor (h : PE X (.BoolOp .Or es pos) (tOrE T B Φ W ses)) : PE X (.BoolOp .Or es pos) (tE T B Φ W (.bor ses)) := h.pv fun σ H Q ⟨ρ, l, at_, h⟩ => ⟨ρ, l, at_, by rw [ev] at h; exact h⟩
theorem s_ite (hc : PT X c (tT T B Φ W sc)) (ha : PE X a (tE T B Φ W sa)) (hb : PE X b (tE T B Φ W sb)) : PE X (.IfExp c a b pos) (tE T B Φ W (.ite sc sa sb)) :=
  (pe_ifExp hc ha hb).pv fun σ H Q ⟨ρ, l, at_, h⟩ => by
    rw [ev] at h
    refine ⟨ρ, l, at_, h.rg.bind.mono fun t ρ1 k H1 a1 => ?_⟩
    cases t with
    | true => rw [if_pos rfl]; exact ⟨ρ1, l, a1, RG.rp k⟩
    | false => rw [if_neg Bool.false_ne_true]; exact ⟨ρ1, l, a1, RG.rp k⟩
/-! ### slices -/
def tP (T : Tab) (B : Base) (Φ : Phi) (W : WX) (s : SE) : TO := fun σ H Q => ∃ ρ l, At T B H ρ σ l ∧ RG T B W σ l ((evA Φ s ρ).bind fun y ρ => bnd (partOk s y ρ) fun _ => .ok y ρ) fun y ρ' => ∀ v H', At T B H' ρ' σ (argIts y v ++ l) → ArgV σ y v → ∀ lo, PartV v lo → Q lo H'
theorem s_noPart : PO X none (tP T B Φ W (.lit .non)) := ⟨fun pins s σ H Q I ⟨ρ, l, a, h⟩ => by
  have e : evA Φ (.lit .non) ρ = .ok (.val (.d .non)) ρ := by
    rw [evA, ev]
    · rfl
    all_goals simp
  rw [e] at h
  have h : ∀ v H', At T B H' ρ σ (argIts (.val (.d .non)) v ++ l) → ArgV σ (.val (.d .non)) v → ∀ lo, PartV v lo → Q lo H' := h
  exact po_none.run pins s σ H Q I (h .non H ⟨a.ok, a.sat.non.perm List.perm_middle.symm, a.pr⟩ trivial none (.inl ⟨rfl, rfl⟩))⟩
def isNon : SE → Bool
  | .lit .non => true
  | _ => false
theorem int_of {σ : L2.St} {l : List It1} {H : Hp} {ρ : Env} {y : Arg} {v : V} {i : Int} (a : At T B H ρ σ (argIts y v ++ l)) (av : ArgV σ y v) (e : argO y ρ = some (.d (.int i))) : v = .int i := by
  cases y with
  | val o =>
    have e : some o = some (.d (.int i)) := e
    injection e with e
    subst e
    exact (SatH.perm (m := (O.d (.int i), v) :: (envIts ρ σ ++ l)) a.sat List.perm_middle).read
  | slot j =>
    have av : σ[j]? = some (some v) := av
    exact (SatH.perm (a.take e av).sat List.perm_middle).read
theorem s_part (hs : isNon se = false) (h : PE X e (tA T B Φ W se)) : PO X (some e) (tP T B Φ W se) := ⟨fun pins s σ H Q I ⟨ρ, l, a, h1⟩ => by
  refine (po_some h).run pins s σ H Q I ⟨ρ, l, a, h1.bind.mono fun y ρ1 k v H1 a1 av => ?_⟩
  obtain ⟨_, ep, k⟩ := k.bnd
  have : ∃ i, argO y ρ1 = some (.d (.int i)) := by
    unfold partOk at ep
    split at ep
    · cases hs
    · split at ep
      · rename_i i h; exact ⟨i, h⟩
      · cases ep
  obtain ⟨i, ei⟩ := this
  have ev' := int_of a1 av ei
  exact ⟨i, ev', k v H1 a1 av (some i) (.inr ⟨i, ev', rfl⟩)⟩⟩
theorem s_slc (hK : X.K = T.K) {lo hi : Option Expr} {p2 : Pos} (ha : PE X a (tA T B Φ W sa)) (hl : PO X lo (tP T B Φ W sb)) (hh : PO X hi (tP T B Φ W sc)) : PE X (.Subscript a (.Slice lo hi none p2) pos) (tE T B Φ W (.slc sa sb sc)) :=
  (pe_slice (opSlc (T := T) (B := B) hK) ha hl hh).pv fun σ H Q ⟨ρ, l, at_, h⟩ => by
    rw [ev] at h
    refine ⟨ρ, l, at_, h.rg.bind.mono fun α ρ1 k1 v H1 a1 av => ⟨ρ1, argIts α v ++ l, a1, ?_⟩⟩
    have k1 := k1.bind
    cases e1 : evA Φ sb ρ1 with
    | bad => rw [e1] at k1; exact k1.elim
    | exc C p ρ' => rw [e1] at k1; exact fun d H its a => k1 d H its a.dropM
    | ok β ρ2 =>
      rw [e1] at k1
      obtain ⟨u, eu, k1⟩ := RG.bnd k1
      show RG T B W σ (argIts α v ++ l) (bnd (partOk sb β ρ2) fun _ => Res.ok β ρ2) _
      rw [eu]
      intro w H2 a2 aw lo' hlo
      refine ⟨ρ2, argIts β w ++ (argIts α v ++ l), a2, ?_⟩
      have k2 := k1.bind
      cases e2 : evA Φ sc ρ2 with
      | bad => rw [e2] at k2; exact k2.elim
      | exc C p ρ' => rw [e2] at k2; exact fun d H its a => k2 d H its a.dropM.dropM
      | ok γ ρ3 =>
        rw [e2] at k2
        obtain ⟨u2, eu2, k2⟩ := RG.bnd k2
        show RG T B W σ _ (bnd (partOk sc γ ρ3) fun _ => Res.ok γ ρ3) _
        rw [eu2]
        intro z H3 a3 az hi' hhi
        exact ⟨w, z, hlo, hhi, rel_of (as := [α, β, γ]) k2 (a3.perm three_its) ⟨av, aw, az, trivial⟩⟩
end
end PV
/-! PV12: calls of the program's functions -/
namespace PV
open PySem PySem.Spec PyProof.Rows L2
/-- what a call's end gives -/
def SpEnd (T : Tab) (B : Base) (r : FRes) (vs : List V) (l : List It1) (Q : VK) (E : XK) : Prop := match r with
  | .ok o ios => ∀ u H', ios.length = vs.length → Sat T B H' ((o, u) :: (ios.zip vs ++ l)) → Q u H'
  | .exc C p ios => ∀ d H' its, ios.length = vs.length → Sat T B H' (its ++ (ios.zip vs ++ l)) → ExcIt T H' C p d its → E (.ref (T.cls C)) d H'
  | .bad => False
/-- a def's promise, of what it means over data -/
def spOf (T : Tab) (run : List O → FRes) : Sp := fun vs H Q E => ∃ (B : Base) (os : List O) (l : List It1), os.length = vs.length ∧ Sat T B H (os.zip vs ++ l) ∧ SpEnd T B (run os) vs l Q E
section
variable {T : Tab} {B : Base} {Φ : Phi} {W : WX} {X : Cx} {e a b c : Expr} {es : List Expr} {se sa sb sc : SE} {ses : List SE} {pos p : Pos} {i : Nat} {x : Str}
theorem fetchL_exc : ∀ {as : List Arg} {ρ ρ1 : Env} {C : Nat} {p : List D}, fetchL as ρ ≠ .exc C p ρ1 := by
  intro as
  induction as with
  | nil => intro ρ ρ1 C p z; cases z
  | cons a as ih =>
    intro ρ ρ1 C p z
    have z : ((fetch a ρ).bind fun o ρ => (fetchL as ρ).bind fun os ρ => Res.ok (o :: os) ρ) = .exc C p ρ1 := z
    cases ea : fetch a ρ with
    | ok o ρ2 =>
      rw [ea] at z
      cases eb : fetchL as ρ2 with
      | ok os ρ3 => rw [Res.bind_ok, eb] at z; cases z
      | exc C' p' ρ3 => exact ih eb
      | bad => rw [Res.bind_ok, eb] at z; cases z
    | exc C' p' ρ2 =>
      cases a with
      | val o => cases ea
      | slot i =>
        have ea : bnd (slotE ρ i) (fun o => Res.ok o (fetch.taken o i ρ)) = .exc C' p' ρ2 := ea
        cases q : slotE ρ i <;> rw [q] at ea <;> cases ea
    | bad => rw [ea] at z; cases z
/-- the arguments stand: the call -/
theorem call_of {run : List O → FRes} {n : Nat} {as : List Arg} {vs : List V} {σ : L2.St} {l : List It1} {H : Hp} {ρ : Env} {Q : VK} (h : RG T B W σ l (callR ⟨n, run⟩ as ρ) fun o ρ => ∀ v H, At T B H ρ σ ((o, v) :: l) → Q v H)
    (a : At T B H ρ σ (argItsL as vs ++ l)) (av : ArgVs σ as vs) : spOf T run vs H Q (WE W σ) := by
  unfold callR at h
  have h := h.bind
  cases e : fetchL as ρ with
  | bad => rw [e] at h; exact h.elim
  | exc C p ρ' => exact (fetchL_exc e).elim
  | ok os ρ1 =>
    rw [e] at h
    obtain ⟨hl, a1⟩ := fetchL_at a av e
    refine ⟨B, os, envIts ρ1 σ ++ l, hl, a1.sat.perm swap_its, ?_⟩
    have h : RG T B W σ l ((run os).to as ρ1) fun o ρ => ∀ v H, At T B H ρ σ ((o, v) :: l) → Q v H := h
    unfold SpEnd
    cases er : run os with
    | bad => rw [er] at h; exact h.elim
    | ok r ios =>
      rw [er] at h
      have h : ∀ v H, At T B H (backL as ios ρ1) σ ((r, v) :: l) → Q v H := h
      intro u H' hi s
      refine h u H' (backL_at (as := as) (os := ios) (vs := vs) hi ⟨a1.ok, s.perm ?_, a1.pr⟩ av)
      have p1 : ((r, u) :: (ios.zip vs ++ (envIts ρ1 σ ++ l))).Perm ((r, u) :: (envIts ρ1 σ ++ (ios.zip vs ++ l))) := swap_its.cons _
      refine p1.trans (List.perm_middle.symm.trans ?_)
      exact (List.perm_middle.symm).append_left _
    | exc C p ios =>
      rw [er] at h
      have h : ∀ d H its, At T B H (backL as ios ρ1) σ (its ++ l) → ExcIt T H C p d its → W (.ref (T.cls C)) d σ H := h
      intro d H' its hi s ei
      refine h d H' its (backL_at (as := as) (os := ios) (vs := vs) hi ⟨a1.ok, s.perm ?_, a1.pr⟩ av) ei
      have p1 : (its ++ (ios.zip vs ++ (envIts ρ1 σ ++ l))).Perm (its ++ (envIts ρ1 σ ++ (ios.zip vs ++ l))) := swap_its.append_left _
      have p2 : (its ++ (envIts ρ1 σ ++ (ios.zip vs ++ l))).Perm (envIts ρ1 σ ++ (its ++ (ios.zip vs ++ l))) := swap_its
      exact p1.trans (p2.trans (swap_its.append_left _))
section
variable {k : Nat} {f : Addr} {fd : FuncData} {ps : List Str} {fi n : Nat} {run : List O → FRes}
theorem s_call (F : FnOk X.prog X.w X.K X.mg X.base (L2.CX X.prog X.w) k f fd ps (spOf T run)) (hΦ : Φ fi = ⟨n, run⟩) (hr : Room k X.A) (hg : Gl X x) (hm : X.mg x = some (.ref f)) (hk : PySem.W.keepIn X.K (.ref f) = true) (hb : Binds X.K fd ps []) (tk : Takes X W)
    (ha : PA X (e :: es) (tAs T B Φ W ses)) (hdb : (x == ("__debug__" : Str)) = false) (he : starEach (e :: es) X.env = (false, eval e X.env) :: starEach es X.env) (hpl : (backTo pos (starEach es X.env)).any (·.1) = false) : PE X (.Call (.Name x p) (e :: es) [] pos) (tE T B Φ W (.call fi ses)) :=
  (pe_callS (E := WE W) F hr hg hm hk hb (fun σ => passAt tk σ) ha hdb he hpl).pv fun σ H Q ⟨ρ, l, at_, h⟩ => by
    rw [ev, hΦ] at h
    exact ⟨ρ, l, at_, h.rg.bind.mono fun as ρ1 k1 vs H1 a1 av => call_of k1 a1 av⟩
theorem s_call0 (F : FnOk X.prog X.w X.K X.mg X.base (L2.CX X.prog X.w) k f fd ps (spOf T run)) (hΦ : Φ fi = ⟨n, run⟩) (hr : Room k X.A) (hg : Gl X x) (hm : X.mg x = some (.ref f)) (hk : PySem.W.keepIn X.K (.ref f) = true) (hb : Binds X.K fd ps []) (tk : Takes X W)
    (hdb : (x == ("__debug__" : Str)) = false) : PE X (.Call (.Name x p) [] [] pos) (tE T B Φ W (.call fi [])) := by
  refine ⟨fun pins s σ H Q I ⟨ρ, l, at_, h⟩ => ?_⟩
  rw [ev, hΦ, evAs] at h
  have h1 : spOf T run [] H Q (WE W σ) := call_of (as := []) (vs := []) h.rg at_ trivial
  refine wpAny_Call_Name_kw (ld_glob I hg hm ?_ hdb)
  exact PySem.W.callWith_K0 I.kIn hk (run_fnS (us := []) F hr hb (passAt tk σ) I .nil h1)
end
end
end PV
/-! PV13: built-in functions -/
namespace PV
open PySem PySem.Spec PyProof.Rows L2
section
variable {T : Tab} {B : Base} {Φ : Phi} {W : WX} {X : Cx} {e a b c : Expr} {es : List Expr} {se sa sb sc : SE} {ses : List SE} {pos p : Pos} {i : Nat} {x : Str}
theorem relLen {k : Nat} {f : List D → Option O} {sh : Bool} {xs : List V} {H : Hp} {Q : VK} (h : relN T B f sh xs H Q) (hk : ∀ as r, f as = some r → as.length = k) : xs.length = k := by
  obtain ⟨os, l, r, hl, s, e, q⟩ := h
  rw [← hl, ← hk _ _ e, List.length_map]
theorem one_of {f : List D → Option O} {sh : Bool} {xs : List V} {H : Hp} {Q : VK} (h : relN T B f sh xs H Q) (hk : ∀ as r, f as = some r → as.length = 1) : ∃ x, xs = [x] := by
  have := relLen h hk
  match xs, this with
  | [x], _ => exact ⟨x, rfl⟩
theorem two_of {f : List D → Option O} {sh : Bool} {xs : List V} {H : Hp} {Q : VK} (h : relN T B f sh xs H Q) (hk : ∀ as r, f as = some r → as.length = 2) : ∃ x y, xs = [x, y] := by
  have := relLen h hk
  match xs, this with
  | [x, y], _ => exact ⟨x, y, rfl⟩
theorem fn_len1 {k : Fn} (hk : k ≠ .min2 ∧ k ≠ .max2) {as : List D} {r : O} (e : fnD k as = some r) : as.length = 1 := by
  match as, e with
  | [], e => cases e
  | [_], _ => rfl
  | [x, y], e =>
    have e : fn2 k x y = some r := e
    cases k <;> first | exact absurd rfl hk.1 | exact absurd rfl hk.2 | cases e
  | _ :: _ :: _ :: _, e => cases e
theorem tkeysOf_len : ∀ {ks : List D} {js : List (List Key)}, tkeysOf ks = some js → js.length = ks.length
  | [], js, e => by injection e with e; subst e; rfl
  | k :: ks, js, e => by
    unfold tkeysOf at e
    cases e1 : tkeyOf k with
    | none => rw [e1] at e; cases e
    | some kk =>
      cases e2 : tkeysOf ks with
      | none => rw [e1, e2] at e; cases e
      | some r' =>
        rw [e1, e2] at e
        injection e with e
        subst e
        simp [tkeysOf_len e2]
theorem cr_len (hK : X.K = T.K) : CallR X (.builtin "len") (fun xs H Q => relN T B (fnD .len) false xs H Q) := by
  intro pins s σ H xs us Q I r h
  obtain ⟨y, rfl⟩ := one_of h fun as r e => fn_len1 ⟨by decide, by decide⟩ e
  obtain ⟨o, l, r0, sa, e, q⟩ := rel1 h
  have d := sa.read
  cases ea : o.frz with
  | lst xs =>
    rw [ea] at e
    injection e with e; subst e
    obtain ⟨a, vs, rfl, ha, hl, s1⟩ := Sat.kidsL sa ea
    exact call_len_seq pins s σ H _ us Q I r ⟨a, vs, rfl, .inl (by rw [hK]; exact ha), by rw [← hl]; exact q _ _ sa.int⟩
  | tup xs =>
    rw [ea] at e
    injection e with e; subst e
    obtain ⟨a, vs, rfl, ha, hl, s1⟩ := Sat.kidsT sa ea
    exact call_len_seq pins s σ H _ us Q I r ⟨a, vs, rfl, .inr (by rw [hK]; exact ha), by rw [← hl]; exact q _ _ sa.int⟩
  | str z =>
    rw [ea] at e d
    have d : y = .str z := d
    subst d
    have e : (if z.length ≤ sizeLine then some (O.d (.int z.length)) else none) = some r0 := e
    split at e
    · rename_i hz
      injection e with e; subst e
      exact call_len_str pins s σ H _ us Q I r ⟨z, rfl, hz, q _ _ sa.int⟩
    · cases e
  | dic ks ds =>
    rw [ea] at e
    injection e with e; subst e
    obtain ⟨a, vs, rfl, ha, hl, s1⟩ := Sat.kidsD sa ea
    have fin := q _ _ sa.int
    obtain ⟨u, rfl, rx⟩ := vals1 r
    cases rx
    rcases ha with ⟨js, q1, rd, q3⟩ | ⟨js, q1, rd, q3⟩
    · have hz : (js.zip vs).length = ks.length := by rw [List.length_zip, q3, Nat.min_self, ← q3, keysOf_len q1]
      refine d_len I rd fun t s' I' => ?_
      rw [hz]
      exact ⟨.int (ks.length : Nat), H, I', ⟨t, rfl⟩, fin⟩
    · have hz : (js.zip vs).length = ks.length := by rw [List.length_zip, q3, Nat.min_self, ← q3, tkeysOf_len q1]
      obtain ⟨z, hd, ys, rel, dd⟩ := dt_rd I.hok rd
      have hy : (js.zip vs).length = ys.length := Paired.length rel
      refine call_len_dictH hd dd (by rw [← hy]; rw [sizeLine_eq] at z; omega) ?_
      rw [← hy, hz]
      exact ⟨.int (ks.length : Nat), H, I.tok _, ⟨_, rfl⟩, fin⟩
  | _ => rw [ea] at e; cases e
theorem keys_reps : ∀ {ks : List D} {js : List Key} {l : List It1} {H : Hp} {hs : List Addr}, keysOf ks = some js → SatH T B H hs l → SatH T B H hs ((ks.map O.d).zip (js.map kV) ++ l)
  | [], js, l, H, hs, e, s => by
    have e : some ([] : List Key) = some js := e
    cases e
    exact s
  | k :: ks, js, l, H, hs, e, s => by
    unfold keysOf at e
    cases e1 : keyOf k with
    | none => rw [e1] at e; cases e
    | some kk =>
      cases e2 : keysOf ks with
      | none => rw [e1, e2] at e; cases e
      | some r' =>
        rw [e1, e2] at e
        injection e with e
        subst e
        refine SatH.lit (l := (ks.map O.d).zip (r'.map kV) ++ l) (keys_reps e2 s) fun own h => ?_
        cases k with
        | int i => injection e1 with e1; subst e1; rfl
        | str i => injection e1 with e1; subst e1; rfl
        | _ => cases e1
theorem cr_list (hK : X.K = T.K) (hc : X.calm = true) : CallR X (.type "list") (fun xs H Q => relN T B (fnD .list) true xs H Q) := by
  intro pins s σ H xs us Q I r h
  obtain ⟨y, rfl⟩ := one_of h fun as r e => fn_len1 ⟨by decide, by decide⟩ e
  obtain ⟨o, l, r0, sa, e, q⟩ := rel1 h
  rw [if_pos rfl] at q
  cases ea : o.frz with
  | lst xs =>
    rw [ea] at e
    injection e with e; subst e
    obtain ⟨a, vs, rfl, ha, hl, s1⟩ := Sat.kidsL sa ea
    exact call_list_of pins s σ H _ us Q I r ⟨a, vs, rfl, .inl (by rw [hK]; exact ha), fun p hp => q _ _ (Sat.newL s1 (by simp [hl]) hp)⟩
  | tup xs =>
    rw [ea] at e
    injection e with e; subst e
    obtain ⟨a, vs, rfl, ha, hl, s1⟩ := Sat.kidsT sa ea
    exact call_list_of pins s σ H _ us Q I r ⟨a, vs, rfl, .inr (by rw [hK]; exact ha), fun p hp => q _ _ (Sat.newL s1 (by simp [hl]) hp)⟩
  | dic ks ds =>
    rw [ea] at e
    have e : (if (ks.all fun k => (keyOf k).isSome) = true then some (O.lst (ks.map .d)) else none) = some r0 := e
    split at e
    · rename_i hk
      injection e with e; subst e
      obtain ⟨a, vs, rfl, ha, hl, s1⟩ := Sat.kidsD sa ea
      have s2 := SatH.dropL s1
      rcases ha with ⟨js, q1, rd, q3⟩ | ⟨js, q1, rd, q3⟩
      · refine call_listD hc pins s σ H _ us Q I r ⟨a, js.zip vs, rfl, rd, fun p hp => q _ _ ?_⟩
        have e2 : ((js.zip vs).map fun kv => kV kv.1) = js.map kV := by
          rw [show (fun kv : Key × V => kV kv.1) = kV ∘ Prod.fst from rfl, ← List.map_map, List.map_fst_zip (by omega)]
        rw [e2]
        exact Sat.newL (keys_reps q1 s2) (by simp [keysOf_len q1]) hp
      · cases ks with
        | nil =>
          injection q1 with q1
          subst q1
          obtain ⟨u, rfl, rx⟩ := vals1 r
          cases rx
          obtain ⟨dd, hd⟩ := dt_emptyK I rd
          obtain ⟨ep, hat⟩ := dd.dictAt
          refine PySem.W.kdl_call (PySem.W.kdl_dict (knd := mixKind X.prog X.w) (kvs := []) (ep := ep) hd) (I.ok.hd hc) hat (Nat.zero_le _) fun h' tk acc c' hk hD hacc => ?_
          have ha : acc.toList = [] := by
            have := hacc.1
            simpa using this
          refine ⟨.ref s.heap.objs.size, upd H s.heap.objs.size (.lst []), I.laid (t' := tk) hk (Nat.le_refl _) (show ObjOk X.prog X.w _ _ _ (.lst []) from ⟨Nat.zero_le _, [], c', .nil, by rw [← ha, Array.toArray_toList]; exact hD⟩), rfl, q _ _ ?_⟩
          exact Sat.newL (os := []) (vs := []) s2 rfl (I.hok.fresh (Nat.le_refl _))
        | cons j ks =>
          have h1 := tkeys_all q1 j List.mem_cons_self
          have h2 := List.all_eq_true.mp hk j List.mem_cons_self
          obtain ⟨jj, ej⟩ := Option.isSome_iff_exists.mp h2
          rw [tkey_no ej] at h1; cases h1
    · cases e
  | _ => rw [ea] at e; cases e
theorem cr_tuple (hK : X.K = T.K) : CallR X (.type "tuple") (fun xs H Q => relN T B (fnD .tuple) true xs H Q) := by
  intro pins s σ H xs us Q I r h
  obtain ⟨y, rfl⟩ := one_of h fun as r e => fn_len1 ⟨by decide, by decide⟩ e
  obtain ⟨o, l, r0, sa, e, q⟩ := rel1 h
  rw [if_pos rfl] at q
  cases ea : o.frz with
  | lst xs =>
    rw [ea] at e
    injection e with e; subst e
    obtain ⟨a, vs, rfl, ha, hl, s1⟩ := Sat.kidsL sa ea
    exact call_tuple_of pins s σ H _ us Q I r ⟨a, vs, rfl, .inl ⟨by rw [hK]; exact ha, fun p hp => q _ _ (Sat.newTd s1 hl hp)⟩⟩
  | tup xs =>
    rw [ea] at e
    injection e with e; subst e
    have s2 := Sat.dupT sa ea
    obtain ⟨a, vs, rfl, ha, hl, s1⟩ := Sat.kidsT sa ea
    exact call_tuple_of pins s σ H _ us Q I r ⟨a, vs, rfl, .inr ⟨by rw [hK]; exact ha, q _ _ s2⟩⟩
  | _ => rw [ea] at e; cases e
theorem cr_abs : CallR X (.builtin "abs") (fun xs H Q => relN T B (fnD .abs) false xs H Q) := by
  intro pins s σ H xs us Q I r h
  obtain ⟨y, rfl⟩ := one_of h fun as r e => fn_len1 ⟨by decide, by decide⟩ e
  obtain ⟨o, l, r0, sa, e, q⟩ := rel1 h
  have d := sa.read
  cases ea : o.frz with
  | int i =>
    rw [ea] at e d
    have d : y = .int i := d
    subst d
    injection e with e; subst e
    exact call_abs pins s σ H _ us Q I r ⟨i, rfl, q _ _ sa.int⟩
  | _ => rw [ea] at e; cases e
theorem cr_int : CallR X (.type "int") (fun xs H Q => relN T B (fnD .int) false xs H Q) := by
  intro pins s σ H xs us Q I r h
  obtain ⟨y, rfl⟩ := one_of h fun as r e => fn_len1 ⟨by decide, by decide⟩ e
  obtain ⟨o, l, r0, sa, e, q⟩ := rel1 h
  have d := sa.read
  cases ea : o.frz with
  | int i =>
    rw [ea] at e d
    have d : y = .int i := d
    subst d
    injection e with e; subst e
    exact call_int1 pins s σ H _ us Q I r (.inl ⟨i, rfl, q _ _ sa.int⟩)
  | bl k =>
    rw [ea] at e d
    have d : y = .bl k := d
    subst d
    injection e with e; subst e
    exact call_int1 pins s σ H _ us Q I r (.inr ⟨k, rfl, q _ _ sa.int⟩)
  | _ => rw [ea] at e; cases e
theorem fn_len2 {k : Fn} (hk : k = .min2 ∨ k = .max2) {as : List D} {r : O} (e : fnD k as = some r) : as.length = 2 := by
  match as, e with
  | [], e => cases e
  | [x], e =>
    have e : fn1 k x = some r := e
    rcases hk with rfl | rfl <;> cases e
  | [_, _], _ => rfl
  | _ :: _ :: _ :: _, e => cases e
theorem cr_mm (hc : X.calm = true) {k : Fn} (hk : k = .min2 ∨ k = .max2) : CallR X (.builtin (match k with | .min2 => "min" | _ => "max")) (fun xs H Q => relN T B (fnD k) false xs H Q) := by
  intro pins s σ H xs us Q I r h
  obtain ⟨y, z, rfl⟩ := two_of h fun as r e => fn_len2 hk e
  obtain ⟨o, p, l, r0, sa, e, q⟩ := rel2 h
  have d1 := sa.read
  have d2 := sa.read2
  cases ea : o.frz with
  | int i =>
    rw [ea] at e d1
    have d1 : y = .int i := d1
    subst d1
    cases eb : p.frz with
    | int j =>
      rw [eb] at e d2
      have d2 : z = .int j := d2
      subst d2
      rcases hk with rfl | rfl
      · injection e with e; subst e
        exact call_min2 hc pins s σ H _ us Q I r ⟨i, j, rfl, q _ _ sa.int⟩
      · injection e with e; subst e
        exact call_max2 hc pins s σ H _ us Q I r ⟨i, j, rfl, q _ _ sa.int⟩
    | _ => rw [eb] at e; rcases hk with rfl | rfl <;> cases e
  | _ => rw [ea] at e; rcases hk with rfl | rfl <;> cases e
theorem bools_vals {own : Addr → Prop} {h : Hp} : ∀ {xs : List D} {bs : List Bool} {vs : List V}, boolsD xs = some bs → DrL T own h xs vs → vs = bs.map V.bl
  | [], bs, vs, e, d => by
    have d : vs = [] := d
    injection e with e
    subst e d; rfl
  | x :: xs, bs, vs, e, d => by
    obtain ⟨v, r, rfl, d1, d2⟩ := d
    cases x with
    | bl b =>
      have e : (boolsD xs).map (b :: ·) = some bs := e
      obtain ⟨r', e1, e2⟩ := Option.map_eq_some_iff.mp e
      subst e2
      have d1 : v = .bl b := d1
      rw [d1, bools_vals e1 d2]; rfl
    | _ => cases e
theorem cr_all' (hK : X.K = T.K) (hc : X.calm = true) : CallR X (.builtin "all") (fun xs H Q => relN T B (fnD .all) false xs H Q) := by
  intro pins s σ H xs us Q I r h
  obtain ⟨y, rfl⟩ := one_of h fun as r e => fn_len1 ⟨by decide, by decide⟩ e
  obtain ⟨o, l, r0, sa, e, q⟩ := rel1 h
  have d := sa.read
  cases ea : o.frz with
  | lst xs =>
    rw [ea] at e d
    have e : (boolsD xs).map (fun bs => O.d (.bl (bs.all id))) = some r0 := e
    obtain ⟨bs, e1, e2⟩ := Option.map_eq_some_iff.mp e
    subst e2
    obtain ⟨a, vs, rfl, ha, dl⟩ := readL sa d
    have := bools_vals e1 dl
    subst this
    exact cr_all hc pins s σ H _ us Q I r ⟨a, bs, rfl, by rw [hK]; exact ha, q _ _ sa.bl⟩
  | _ => rw [ea] at e; cases e
theorem cr_any' (hK : X.K = T.K) (hc : X.calm = true) : CallR X (.builtin "any") (fun xs H Q => relN T B (fnD .any) false xs H Q) := by
  intro pins s σ H xs us Q I r h
  obtain ⟨y, rfl⟩ := one_of h fun as r e => fn_len1 ⟨by decide, by decide⟩ e
  obtain ⟨o, l, r0, sa, e, q⟩ := rel1 h
  have d := sa.read
  cases ea : o.frz with
  | lst xs =>
    rw [ea] at e d
    have e : (boolsD xs).map (fun bs => O.d (.bl (bs.any id))) = some r0 := e
    obtain ⟨bs, e1, e2⟩ := Option.map_eq_some_iff.mp e
    subst e2
    obtain ⟨a, vs, rfl, ha, dl⟩ := readL sa d
    have := bools_vals e1 dl
    subst this
    exact cr_any hc pins s σ H _ us Q I r ⟨a, bs, rfl, by rw [hK]; exact ha, q _ _ sa.bl⟩
  | _ => rw [ea] at e; cases e
/-! ### f(e, ..) -/
def fnName : Fn → Str
  | .len => "len" | .list => "list" | .tuple => "tuple" | .abs => "abs" | .int => "int" | .min2 => "min" | .max2 => "max" | .any => "any" | .all => "all" | _ => ""
theorem s_fn {k : Fn} (hK : X.K = T.K) (hc : X.calm = true) (hn : x = fnName k) (hx : (x == ("" : Str)) = false) (hg : Gl X x) (hm : X.mg x = none) (ha : PA X (e :: es) (tAs T B Φ W ses))
    (he : starEach (e :: es) X.env = (false, eval e X.env) :: starEach es X.env) (hpl : (backTo pos (starEach es X.env)).any (·.1) = false) : PE X (.Call (.Name x p) (e :: es) [] pos) (tE T B Φ W (.fn k ses)) := by
  have go : ∀ {r : List V → Hp → VK → Prop}, r = (fun xs H Q => relN T B (fnD k) (fnSh k) xs H Q) → PE X (.Call (.Name x p) (e :: es) [] pos) (tCB r (tAs T B Φ W ses)) → PE X (.Call (.Name x p) (e :: es) [] pos) (tE T B Φ W (.fn k ses)) := by
    intro r er h
    subst er
    refine h.pv fun σ H Q ⟨ρ, l, at_, h⟩ => ?_
    rw [ev] at h
    exact ⟨ρ, l, at_, h.rg.bind.mono fun as ρ1 k1 vs H1 a1 av => rel_of k1 a1 av⟩
  subst hn
  cases k with
  | len => exact go rfl (pe_callB (cr_len hK) hg hm rfl ha (by decide) (by decide) he hpl)
  | list => exact go rfl (pe_callTy (cr_list hK hc) hg hm rfl ha (by decide) (by decide) he hpl)
  | tuple => exact go rfl (pe_callTy (cr_tuple hK) hg hm rfl ha (by decide) (by decide) he hpl)
  | abs => exact go rfl (pe_callB cr_abs hg hm rfl ha (by decide) (by decide) he hpl)
  | int => exact go rfl (pe_callTy cr_int hg hm rfl ha (by decide) (by decide) he hpl)
  | min2 => exact go rfl (pe_callB (cr_mm hc (.inl rfl)) hg hm rfl ha (by decide) (by decide) he hpl)
  | max2 => exact go rfl (pe_callB (cr_mm hc (.inr rfl)) hg hm rfl ha (by decide) (by decide) he hpl)
  | any => exact go rfl (pe_callB (cr_any' hK hc) hg hm rfl ha (by decide) (by decide) he hpl)
  | all => exact go rfl (pe_callB (cr_all' hK hc) hg hm rfl ha (by decide) (by decide) he hpl)
  | _ => exact absurd hx (by decide)
end
end PV
/-! PV14: objects that change -/
namespace PV
open PySem PySem.Spec PyProof.Rows L2
section
variable {T : Tab} {B : Base} {Φ : Phi} {W : WX} {X : Cx} {H H' : Hp} {hs : List Addr} {l m : List It1} {o y : O} {v w : V} {a : Addr}
/-! ### paths -/
def DicH (h : Hp) (a : Addr) (k : D) (w : V) : Prop := (∃ kvs kk, h a = some (.dK kvs) ∧ keyOf k = some kk ∧ valV kvs kk = some w) ∨ ∃ kvs kk, h a = some (.dT kvs) ∧ tkeyOf k = some kk ∧ valV kvs kk = some w
/-- one step down -/
def StepAt (T : Tab) (h : Hp) (v : V) (k : D) (w : V) : Prop := ∃ a, v = .ref a ∧ ((∃ vs i, h a = some (.lst vs) ∧ k = .int i ∧ atI vs i = some w) ∨ DicH h a k w ∨ ∃ C dx fs f, h a = some (.ins (T.cls C) dx fs) ∧ k = .exc C [.str f] ∧ fs.lookup f = some w)
def PathAt (T : Tab) (h : Hp) : V → List D → V → Prop
  | v, [], x => x = v
  | v, k :: ks, x => ∃ w, StepAt T h v k w ∧ PathAt T h w ks x
theorem StepAt.inj {h : Hp} {v w w' : V} {k : D} (a : StepAt T h v k w) (b : StepAt T h v k w') : w = w' := by
  obtain ⟨p, rfl, a⟩ := a
  obtain ⟨q, e, b⟩ := b
  injection e with e
  subst e
  rcases a with ⟨vs, i, h1, rfl, h2⟩ | (⟨kvs, kk, h1, h2, h3⟩ | ⟨kvs, kk, h1, h2, h3⟩) | ⟨C, dx, fs, f, h1, h2, h3⟩ <;>
    rcases b with ⟨vs', i', g1, g0, g2⟩ | (⟨kvs', kk', g1, g2, g3⟩ | ⟨kvs', kk', g1, g2, g3⟩) | ⟨C', dx', fs', f', g1, g2, g3⟩ <;> rw [h1] at g1 <;> first | (cases g1; done) | skip
  · cases g1; cases g0; rw [h2] at g2; exact Option.some.inj g2
  · cases g1; rw [h2] at g2; cases g2; rw [h3] at g3; exact Option.some.inj g3
  · cases g1; rw [h2] at g2; cases g2; rw [h3] at g3; exact Option.some.inj g3
  · injection g1 with g1; injection g1 with g4 g5 g6; subst g6; rw [h2] at g2; injection g2 with g7 g8; injection g8 with g8 _; injection g8 with g8; subst g8; rw [h3] at g3; exact Option.some.inj g3
theorem PathAt.inj {h : Hp} : ∀ {ks : List D} {v x x' : V}, PathAt T h v ks x → PathAt T h v ks x' → x = x'
  | [], v, x, x', a, b => by
    have a : x = v := a
    have b : x' = v := b
    rw [a, b]
  | k :: ks, v, x, x', a, b => by
    obtain ⟨w, a1, a2⟩ := a
    obtain ⟨w', b1, b2⟩ := b
    rw [a1.inj b1] at a2
    exact a2.inj b2
theorem PathAt.snoc {h : Hp} {k : D} : ∀ {ks : List D} {v x w : V}, PathAt T h v ks x → StepAt T h x k w → PathAt T h v (ks ++ [k]) w
  | [], v, x, w, a, b => by
    have a : x = v := a
    rw [a] at b
    exact ⟨w, b, rfl⟩
  | j :: ks, v, x, w, a, b => by
    obtain ⟨u, a1, a2⟩ := a
    exact ⟨u, a1, PathAt.snoc a2 b⟩
theorem PathAt.unsnoc {h : Hp} {k : D} : ∀ {ks : List D} {v w : V}, PathAt T h v (ks ++ [k]) w → ∃ x, PathAt T h v ks x ∧ StepAt T h x k w
  | [], v, w, a => by
    obtain ⟨u, a1, a2⟩ := a
    have a2 : w = u := a2
    subst a2
    exact ⟨v, rfl, a1⟩
  | j :: ks, v, w, a => by
    obtain ⟨u, a1, a2⟩ := a
    obtain ⟨x, b1, b2⟩ := PathAt.unsnoc a2
    exact ⟨x, ⟨u, a1, b1⟩, b2⟩
theorem pos_k {k : D} {kk : Key} (ek : keyOf k = some kk) : ∀ {ks : List D} {js : List Key} {ws : List V} {n : Nat}, keysOf ks = some js → js.length = ws.length → posD k ks = some n → valV (js.zip ws) kk = ws[n]?
  | [], js, ws, n, e, hl, p => by cases p
  | j :: ks, js, ws, n, e, hl, p => by
    unfold keysOf at e
    cases e1 : keyOf j with
    | none => rw [e1] at e; cases e
    | some jj =>
      cases e2 : keysOf ks with
      | none => rw [e1, e2] at e; cases e
      | some r' =>
        rw [e1, e2] at e
        injection e with e
        subst e
        match ws, hl with
        | w :: r, hl =>
          unfold posD at p
          by_cases hc : jj = kk
          · subst hc
            rw [if_pos ⟨by rw [e1, ek], by rw [tkey_no e1, tkey_no ek]⟩] at p
            injection p with p
            subst p
            exact valV_pos rfl
          · rw [if_neg (fun z => hc (by have := z.1; rw [e1, ek] at this; exact Option.some.inj this))] at p
            obtain ⟨n', p1, p2⟩ := Option.map_eq_some_iff.mp p
            subst p2
            rw [List.zip_cons_cons, valV_neg hc, pos_k ek e2 (by simpa using hl) p1]
            simp
theorem pos_t {k : D} {kk : List Key} (ek : tkeyOf k = some kk) : ∀ {ks : List D} {js : List (List Key)} {ws : List V} {n : Nat}, tkeysOf ks = some js → js.length = ws.length → posD k ks = some n → valV (js.zip ws) kk = ws[n]?
  | [], js, ws, n, e, hl, p => by cases p
  | j :: ks, js, ws, n, e, hl, p => by
    unfold tkeysOf at e
    cases e1 : tkeyOf j with
    | none => rw [e1] at e; cases e
    | some jj =>
      cases e2 : tkeysOf ks with
      | none => rw [e1, e2] at e; cases e
      | some r' =>
        rw [e1, e2] at e
        injection e with e
        subst e
        match ws, hl with
        | w :: r, hl =>
          unfold posD at p
          by_cases hc : jj = kk
          · subst hc
            rw [if_pos ⟨by rw [key_no e1, key_no ek], by rw [e1, ek]⟩] at p
            injection p with p
            subst p
            exact valV_pos rfl
          · rw [if_neg (fun z => hc (by have := z.2; rw [e1, ek] at this; exact Option.some.inj this))] at p
            obtain ⟨n', p1, p2⟩ := Option.map_eq_some_iff.mp p
            subst p2
            rw [List.zip_cons_cons, valV_neg hc, pos_t ek e2 (by simpa using hl) p1]
            simp
theorem perm_erase {p : It1} : ∀ {l : List It1} {j : Nat}, l[j]? = some p → l.Perm (p :: l.eraseIdx j)
  | [], j, e => by simp at e
  | q :: l, 0, e => by
    simp at e
    subst e
    exact .refl _
  | q :: l, j + 1, e => ((perm_erase (l := l) (j := j) (by simpa using e)).cons q).trans (.swap _ _ _)
/-- one of the things within alone, and back -/
theorem zip_one {os : List O} {vs : List V} {j : Nat} {y : O} {w : V} (e1 : os[j]? = some y) (e2 : vs[j]? = some w) : (os.zip vs).Perm ((y, w) :: (os.zip vs).eraseIdx j) ∧ ∀ y', ((y', w) :: (os.zip vs).eraseIdx j).Perm ((os.set j y').zip vs) := by
  have e : (os.zip vs)[j]? = some (y, w) := by rw [List.getElem?_zip_eq_some]; exact ⟨e1, e2⟩
  obtain ⟨hj, hv⟩ := List.getElem?_eq_some_iff.mp e
  obtain ⟨hj1, _⟩ := List.getElem?_eq_some_iff.mp e1
  obtain ⟨hj2, hv2⟩ := List.getElem?_eq_some_iff.mp e2
  refine ⟨perm_erase e, fun y' => ?_⟩
  have es : (os.set j y').zip vs = (os.zip vs).set j (y', w) := by
    apply List.ext_getElem?
    intro i
    by_cases hi : i = j
    · subst hi
      rw [List.getElem?_set_self hj, List.getElem?_zip_eq_some]
      exact ⟨List.getElem?_set_self hj1, e2⟩
    · rw [List.getElem?_set_ne (Ne.symm hi)]
      simp only [List.zip, List.getElem?_zipWith, List.getElem?_set_ne (Ne.symm hi)]
  rw [es]
  have p := perm_erase (l := (os.zip vs).set j (y', w)) (j := j) (List.getElem?_set_self hj)
  rw [List.eraseIdx_set_eq] at p
  exact p.symm
theorem stepF_of {C : Nat} {ns : List Str} {xs : List O} {k : D} {y : O} {g : O → O} (e : stepO (.obj C ns xs) k = some (y, g)) : ∃ f j y0, k = .exc C [.str f] ∧ posF f ns = some j ∧ xs[j]? = some y0 ∧ y = y0 ∧ g = fun z => .obj C ns (xs.set j z) := by
  cases k with
  | exc C' p =>
    match p, e with
    | [.str f], e =>
      have e : (if C' = C then (match posF f ns with
        | some j => (match xs[j]? with
          | some y => some (y, fun z => O.obj C ns (xs.set j z))
          | none => none)
        | none => none) else none) = some (y, g) := e
      by_cases hc : C' = C
      · rw [if_pos hc] at e
        subst hc
        cases e1 : posF f ns with
        | none => simp only [e1] at e; cases e
        | some j =>
          simp only [e1] at e
          cases e2 : xs[j]? with
          | none => simp only [e2] at e; cases e
          | some y0 =>
            simp only [e2] at e
            injection e with e
            injection e with e3 e4
            exact ⟨f, j, y0, rfl, e1, e2, e3.symm, e4.symm⟩
      · rw [if_neg hc] at e; cases e
  | _ => cases e
theorem pos_f {f : Str} : ∀ {ns : List Str} {vs : List V} {j : Nat}, ns.length = vs.length → posF f ns = some j → (ns.zip vs).lookup f = vs[j]?
  | [], vs, j, _, e => by cases e
  | n :: ns, [], j, hl, e => by simp at hl
  | n :: ns, v :: vs, j, hl, e => by
    unfold posF at e
    by_cases hn : n = f
    · rw [if_pos hn] at e
      injection e with e
      subst e hn
      simp [List.lookup]
    · rw [if_neg hn] at e
      obtain ⟨i, e1, e2⟩ := Option.map_eq_some_iff.mp e
      subst e2
      have h2 : (f == n) = false := by simpa using fun z => hn z.symm
      rw [List.zip_cons_cons, List.lookup_cons, h2]
      rw [List.getElem?_cons_succ]
      exact pos_f (by simpa using hl) e1
theorem step_open {k : D} {g : O → O} (s : SatH T B H hs ((o, v) :: l)) (e : stepO o k = some (y, g)) : ∃ a w rest, v = .ref a ∧ StepAt T (vw B.Z H) v k w ∧ SatH T B H (a :: hs) ((y, w) :: (rest ++ l)) ∧
    ∀ H' y' m, H' a = H a → SatH T B H' (a :: hs) ((y', w) :: (rest ++ m)) → SatH T B H' hs ((g y', v) :: m) := by
  cases o with
  | lst xs =>
    cases k with
    | int i =>
      have e : (match ixN xs.length i with
        | some j => (match xs[j]? with
          | some y => some (y, fun z => O.lst (xs.set j z))
          | none => none)
        | none => none) = some (y, g) := e
      cases e1 : ixN xs.length i with
      | none => simp only [e1] at e; cases e
      | some j =>
        simp only [e1] at e
        cases e2 : xs[j]? with
        | none => simp only [e2] at e; cases e
        | some y0 =>
          simp only [e2] at e
          injection e with e
          injection e with e3 e4
          subst e3 e4
          obtain ⟨a, vs, rfl, ha, hl, s1⟩ := s.openL
          obtain ⟨hj, _⟩ := List.getElem?_eq_some_iff.mp e2
          have hw : vs[j]? = some (vs[j]'(by omega)) := List.getElem?_eq_getElem (by omega)
          obtain ⟨p1, p2⟩ := zip_one e2 hw
          have nz : vw B.Z H a = H a := by
            obtain ⟨F, r, nd, c⟩ := s1.reps
            exact vw_free (c a List.mem_cons_self).2.2.1
          refine ⟨a, _, (xs.zip vs).eraseIdx j, rfl, ⟨a, rfl, .inl ⟨vs, i, by rw [nz]; exact ha, rfl, ?_⟩⟩, s1.perm (p1.append_right l), fun H' y' m hH s2 => ?_⟩
          · have e1' : ixN vs.length i = some j := by rw [← hl]; exact e1
            unfold atI
            rw [e1']
            exact hw
          · exact (s2.perm ((p2 y').append_right m)).closeL (by rw [hH]; exact ha) (by simpa using hl)
    | _ => cases e
  | dic ks xs =>
    have e : (if kindOk k ks = true then (match posD k ks with
      | some j => (match xs[j]? with
        | some y => some (y, fun z => O.dic ks (xs.set j z))
        | none => none)
      | none => none) else none) = some (y, g) := e
    by_cases hk : kindOk k ks = true
    · rw [if_pos hk] at e
      cases e1 : posD k ks with
      | none => simp only [e1] at e; cases e
      | some j =>
        simp only [e1] at e
        cases e2 : xs[j]? with
        | none => simp only [e2] at e; cases e
        | some y0 =>
          simp only [e2] at e
          injection e with e
          injection e with e3 e4
          subst e3 e4
          obtain ⟨a, vs, rfl, ha, hl, s1⟩ := s.openD
          obtain ⟨hj, _⟩ := List.getElem?_eq_some_iff.mp e2
          have hw : vs[j]? = some (vs[j]'(by omega)) := List.getElem?_eq_getElem (by omega)
          obtain ⟨p1, p2⟩ := zip_one e2 hw
          have nz : vw B.Z H a = H a := by
            obtain ⟨F, r, nd, c⟩ := s1.reps
            exact vw_free (c a List.mem_cons_self).2.2.1
          refine ⟨a, _, (xs.zip vs).eraseIdx j, rfl, ⟨a, rfl, .inr (.inl ?_)⟩, s1.perm (p1.append_right l), fun H' y' m hH s2 => ?_⟩
          · unfold kindOk at hk
            rw [Bool.or_eq_true, Bool.and_eq_true, Bool.and_eq_true] at hk
            unfold DicH
            rw [nz]
            rcases ha with ⟨js, q1, q2, q3⟩ | ⟨js, q1, q2, q3⟩
            · rcases hk with ⟨hk, hal⟩ | ⟨hk, hal⟩
              · obtain ⟨kk, ek⟩ := Option.isSome_iff_exists.mp hk
                exact .inl ⟨_, kk, q2, ek, (pos_k ek q1 q3 e1).trans hw⟩
              · cases ks with
                | nil => cases e1
                | cons j0 ks =>
                  have h1 := keys_all q1 j0 List.mem_cons_self
                  have h2 := List.all_eq_true.mp hal j0 List.mem_cons_self
                  obtain ⟨jj, ej⟩ := Option.isSome_iff_exists.mp h2
                  rw [key_no ej] at h1; cases h1
            · rcases hk with ⟨hk, hal⟩ | ⟨hk, hal⟩
              · cases ks with
                | nil => cases e1
                | cons j0 ks =>
                  have h1 := tkeys_all q1 j0 List.mem_cons_self
                  have h2 := List.all_eq_true.mp hal j0 List.mem_cons_self
                  obtain ⟨jj, ej⟩ := Option.isSome_iff_exists.mp h2
                  rw [tkey_no ej] at h1; cases h1
              · obtain ⟨kk, ek⟩ := Option.isSome_iff_exists.mp hk
                exact .inr ⟨_, kk, q2, ek, (pos_t ek q1 q3 e1).trans hw⟩
          · exact (s2.perm ((p2 y').append_right m)).closeD (by rw [hH]; exact ha) (by simpa using hl)
    · rw [if_neg hk] at e; cases e
  | obj C ns xs =>
    obtain ⟨f, j, y0, rfl, e1, e2, rfl, rfl⟩ := stepF_of e
    obtain ⟨a, dx, vs, rfl, ha, hn, hl, s1⟩ := s.openO
    obtain ⟨hj, _⟩ := List.getElem?_eq_some_iff.mp e2
    have hw : vs[j]? = some (vs[j]'(by omega)) := List.getElem?_eq_getElem (by omega)
    obtain ⟨p1, p2⟩ := zip_one e2 hw
    have nz : vw B.Z H a = H a := by
      obtain ⟨F, r, nd, c⟩ := s1.reps
      exact vw_free (c a List.mem_cons_self).2.2.1
    refine ⟨a, _, (xs.zip vs).eraseIdx j, rfl, ⟨a, rfl, .inr (.inr ⟨C, dx, _, f, by rw [nz]; exact ha, rfl, (pos_f hn e1).trans hw⟩)⟩, s1.perm (p1.append_right l), fun H' y' m hH s2 => ?_⟩
    exact (s2.perm ((p2 y').append_right m)).closeO (by rw [hH]; exact ha) hn (by simpa using hl)
  | _ => cases e
/-- down a path -/
theorem path_open : ∀ {ks : List D} {o : O} {v : V} {hs : List Addr} {l : List It1} {f : O → Option (O × O)} {r o2 : O}, SatH T B H hs ((o, v) :: l) → pathO ks o f = some (r, o2) →
    ∃ o' x ad rest o1, PathAt T (vw B.Z H) v ks x ∧ f o' = some (r, o1) ∧ SatH T B H (ad ++ hs) ((o', x) :: (rest ++ l)) ∧
      ∀ H' m, (∀ b ∈ ad, H' b = H b) → SatH T B H' (ad ++ hs) ((o1, x) :: (rest ++ m)) → SatH T B H' hs ((o2, v) :: m)
  | [], o, v, hs, l, f, r, o2, s, e => ⟨o, v, [], [], o2, rfl, e, s, fun H' m _ s2 => s2⟩
  | k :: ks, o, v, hs, l, f, r, o2, s, e => by
    unfold pathO at e
    cases e1 : stepO o k with
    | none => rw [e1] at e; cases e
    | some p =>
      obtain ⟨y, g⟩ := p
      rw [e1] at e
      obtain ⟨p, e2, e3⟩ := Option.map_eq_some_iff.mp e
      obtain ⟨r', o3⟩ := p
      injection e3 with e3 e4
      subst e3 e4
      obtain ⟨a, w, rest, rfl, st, s1, back⟩ := step_open s e1
      obtain ⟨o', x, ad, rest2, o1, pa, ef, s2, back2⟩ := path_open s1 e2
      refine ⟨o', x, ad ++ [a], rest2 ++ rest, o1, ⟨w, st, pa⟩, ef, ?_, fun H' m hb s3 => ?_⟩
      · rw [List.append_assoc, List.append_assoc]; exact s2
      · rw [List.append_assoc, List.append_assoc] at s3
        exact back H' o3 m (hb a (by simp)) (back2 H' (rest ++ m) (fun b hb' => hb b (by simp [hb'])) s3)
theorem path_f {ks : List D} : ∀ {o : O} {f f' : O → Option (O × O)} {r o2 : O}, pathO ks o f = some (r, o2) → (∀ o', (f o').isSome = true → (f' o').isSome = true) → ∃ q, pathO ks o f' = some q := by
  induction ks with
  | nil =>
    intro o f f' r o2 e h
    exact Option.isSome_iff_exists.mp (h o (by rw [show f o = some (r, o2) from e]; rfl))
  | cons k ks ih =>
    intro o f f' r o2 e h
    unfold pathO at e ⊢
    cases e1 : stepO o k with
    | none => rw [e1] at e; cases e
    | some p =>
      rw [e1] at e
      obtain ⟨q, e2, _⟩ := Option.map_eq_some_iff.mp e
      obtain ⟨q', h'⟩ := ih (f' := f') e2 h
      exact ⟨_, show (pathO ks p.1 f').map (fun p' => (p'.1, p.2 p'.2)) = some _ by rw [h']; rfl⟩
theorem path_pre {ks : List D} {k : D} : ∀ {o : O} {f : O → Option (O × O)} {r o2 : O}, pathO (ks ++ [k]) o f = some (r, o2) → ∃ q, pathO ks o (fun o => some (o, o)) = some q := by
  induction ks with
  | nil => intro o f r o2 e; exact ⟨_, rfl⟩
  | cons j ks ih =>
    intro o f r o2 e
    rw [List.cons_append] at e
    unfold pathO at e ⊢
    cases e1 : stepO o j with
    | none => rw [e1] at e; cases e
    | some p =>
      rw [e1] at e
      obtain ⟨q, e2, _⟩ := Option.map_eq_some_iff.mp e
      obtain ⟨q', h'⟩ := ih e2
      exact ⟨_, show (pathO ks p.1 (fun o => some (o, o))).map (fun p' => (p'.1, p.2 p'.2)) = some _ by rw [h']; rfl⟩
end
end PV
/-! PV15: what is held while others are evaluated; receivers -/
namespace PV
open PySem PySem.Spec PyProof.Rows L2
section
variable {T : Tab} {B : Base} {Φ : Phi} {W : WX} {X : Cx} {H H' : Hp} {hs : List Addr} {l m : List It1} {o y : O} {v w : V} {a : Addr} {own : Addr → Prop} {h : Hp} {ρ : Env} {σ : L2.St}
theorem orL_get : ∀ {os : List O} {vs : List V} {F : List Addr} {j : Nat} {y : O}, OrL T own h os vs F → os[j]? = some y → ∃ w F', vs[j]? = some w ∧ Or T own h y w F' ∧ ∀ a ∈ F', a ∈ F
  | [], vs, F, j, y, e, q => by simp at q
  | x :: os, vs, F, 0, y, e, q => by
    obtain ⟨w, r, F1, F2, rfl, rfl, e1, e2⟩ := e
    simp at q
    subst q
    exact ⟨w, F1, rfl, e1, fun a ha => List.mem_append_left _ ha⟩
  | x :: os, vs, F, j + 1, y, e, q => by
    obtain ⟨w, r, F1, F2, rfl, rfl, e1, e2⟩ := e
    obtain ⟨w', F', h1, h2, h3⟩ := orL_get (j := j) e2 (by simpa using q)
    exact ⟨w', F', by simpa using h1, h2, fun a ha => List.mem_append_right _ (h3 a ha)⟩
theorem or_step {k : D} {g : O → O} {F : List Addr} (s : Or T own h o v F) (e : stepO o k = some (y, g)) : ∃ w F', StepAt T h v k w ∧ Or T own h y w F' ∧ (∀ a ∈ F', a ∈ F) ∧ ∀ h' : Hp, (∀ a ∈ F, h' a = h a) → StepAt T h' v k w := by
  cases o with
  | lst xs =>
    cases k with
    | int i =>
      have e : (match ixN xs.length i with
        | some j => (match xs[j]? with
          | some y => some (y, fun z => O.lst (xs.set j z))
          | none => none)
        | none => none) = some (y, g) := e
      cases e1 : ixN xs.length i with
      | none => simp only [e1] at e; cases e
      | some j =>
        simp only [e1] at e
        cases e2 : xs[j]? with
        | none => simp only [e2] at e; cases e
        | some y0 =>
          simp only [e2] at e
          injection e with e
          injection e with e3 e4
          subst e3 e4
          obtain ⟨a, vs, G, rfl, rfl, ha, hL⟩ := s
          obtain ⟨w, F', h1, h2, h3⟩ := orL_get hL e2
          have hl := (Reps.ofL hL).2
          have e1' : atI vs i = some w := by
            have e1' : ixN vs.length i = some j := by rw [← hl]; exact e1
            unfold atI
            rw [e1']
            exact h1
          exact ⟨w, F', ⟨a, rfl, .inl ⟨vs, i, ha, rfl, e1'⟩⟩, h2, fun b hb => List.mem_cons_of_mem _ (h3 b hb), fun h' hh => ⟨a, rfl, .inl ⟨vs, i, by rw [hh a List.mem_cons_self]; exact ha, rfl, e1'⟩⟩⟩
    | _ => cases e
  | dic ks xs =>
    have e : (if kindOk k ks = true then (match posD k ks with
      | some j => (match xs[j]? with
        | some y => some (y, fun z => O.dic ks (xs.set j z))
        | none => none)
      | none => none) else none) = some (y, g) := e
    by_cases hk : kindOk k ks = true
    · rw [if_pos hk] at e
      cases e1 : posD k ks with
      | none => simp only [e1] at e; cases e
      | some j =>
        simp only [e1] at e
        cases e2 : xs[j]? with
        | none => simp only [e2] at e; cases e
        | some y0 =>
          simp only [e2] at e
          injection e with e
          injection e with e3 e4
          subst e3 e4
          obtain ⟨a, vs, G, rfl, rfl, ha, hL⟩ := s
          obtain ⟨w, F', h1, h2, h3⟩ := orL_get hL e2
          have key : DicH h a k w ∧ ∀ h' : Hp, h' a = h a → DicH h' a k w := by
            unfold kindOk at hk
            rw [Bool.or_eq_true, Bool.and_eq_true, Bool.and_eq_true] at hk
            rcases ha with ⟨js, q1, q2, q3⟩ | ⟨js, q1, q2, q3⟩
            · rcases hk with ⟨hk, hal⟩ | ⟨hk, hal⟩
              · obtain ⟨kk, ek⟩ := Option.isSome_iff_exists.mp hk
                have z := (pos_k ek q1 q3 e1).trans h1
                exact ⟨.inl ⟨_, kk, q2, ek, z⟩, fun h' e => .inl ⟨_, kk, by rw [e]; exact q2, ek, z⟩⟩
              · cases ks with
                | nil => cases e1
                | cons j0 ks =>
                  have h1 := keys_all q1 j0 List.mem_cons_self
                  have h2 := List.all_eq_true.mp hal j0 List.mem_cons_self
                  obtain ⟨jj, ej⟩ := Option.isSome_iff_exists.mp h2
                  rw [key_no ej] at h1; cases h1
            · rcases hk with ⟨hk, hal⟩ | ⟨hk, hal⟩
              · cases ks with
                | nil => cases e1
                | cons j0 ks =>
                  have h1 := tkeys_all q1 j0 List.mem_cons_self
                  have h2 := List.all_eq_true.mp hal j0 List.mem_cons_self
                  obtain ⟨jj, ej⟩ := Option.isSome_iff_exists.mp h2
                  rw [tkey_no ej] at h1; cases h1
              · obtain ⟨kk, ek⟩ := Option.isSome_iff_exists.mp hk
                have z := (pos_t ek q1 q3 e1).trans h1
                exact ⟨.inr ⟨_, kk, q2, ek, z⟩, fun h' e => .inr ⟨_, kk, by rw [e]; exact q2, ek, z⟩⟩
          exact ⟨w, F', ⟨a, rfl, .inr (.inl key.1)⟩, h2, fun b hb => List.mem_cons_of_mem _ (h3 b hb), fun h' hh => ⟨a, rfl, .inr (.inl (key.2 h' (hh a List.mem_cons_self)))⟩⟩
    · rw [if_neg hk] at e; cases e
  | obj C ns xs =>
    obtain ⟨f, j, y0, rfl, e1, e2, rfl, rfl⟩ := stepF_of e
    obtain ⟨a, dx, vs, G, rfl, rfl, ha, hn, hL⟩ := s
    obtain ⟨w, F', h1, h2, h3⟩ := orL_get hL e2
    have hw := (pos_f hn e1).trans h1
    exact ⟨w, F', ⟨a, rfl, .inr (.inr ⟨C, dx, _, f, ha, rfl, hw⟩)⟩, h2, fun b hb => List.mem_cons_of_mem _ (h3 b hb), fun h' hh => ⟨a, rfl, .inr (.inr ⟨C, dx, _, f, by rw [hh a List.mem_cons_self]; exact ha, rfl, hw⟩)⟩⟩
  | _ => cases e
theorem or_path : ∀ {ks : List D} {o : O} {v : V} {F : List Addr} {f : O → Option (O × O)} {p : O × O}, Or T own h o v F → pathO ks o f = some p → ∃ x, PathAt T h v ks x ∧ ∀ h' : Hp, (∀ a ∈ F, h' a = h a) → PathAt T h' v ks x
  | [], o, v, F, f, p, s, e => ⟨v, rfl, fun _ _ => rfl⟩
  | k :: ks, o, v, F, f, p, s, e => by
    unfold pathO at e
    cases e1 : stepO o k with
    | none => rw [e1] at e; cases e
    | some q =>
      obtain ⟨y, g⟩ := q
      rw [e1] at e
      obtain ⟨p', e2, _⟩ := Option.map_eq_some_iff.mp e
      obtain ⟨w, F', h1, h2, h3, h4⟩ := or_step s e1
      obtain ⟨x, g1, g2⟩ := or_path h2 e2
      exact ⟨x, ⟨w, h1, g1⟩, fun h' hh => ⟨w, h4 h' hh, g2 h' fun a ha => hh a (h3 a ha)⟩⟩
/-- the first thing is held -/
theorem At.hold (a : At T B H ρ σ ((o, v) :: l)) : ∃ B' : Base, B'.pr = B.pr ∧ At T B' H ρ σ l ∧ (∀ (H' : Hp) (ρ' : Env) (σ' : L2.St) (m : List It1), (∀ p ∈ B.pr, σ'[p.1]? = some (some p.2)) → At T B' H' ρ' σ' m → At T B H' ρ' σ' ((o, v) :: m) ∧
    ∀ (ks : List D) (f : O → Option (O × O)) (p : O × O) (x : V), pathO ks o f = some p → PathAt T (vw B.Z H) v ks x → PathAt T (vw B.Z H') v ks x) := by
  have s : Sat T B H ((envIts ρ σ ++ l) ++ [(o, v)]) := a.sat.perm (List.perm_middle.trans (by
    rw [← List.singleton_append]
    exact List.perm_append_comm))
  obtain ⟨B', Fl, own, hZ, hpr, r, sa, back⟩ := Sat.call s
  obtain ⟨F1, F2, rfl, r1, r2⟩ := r
  refine ⟨B', hpr, ⟨a.ok, sa, by rw [hpr]; exact a.pr⟩, fun H' ρ' σ' m hp a' => ?_⟩
  obtain ⟨s', k⟩ := back H' _ a'.sat
  refine ⟨⟨a'.ok, s'.perm ?_, hp⟩, fun ks f p x e pa => ?_⟩
  · have p1 : (envIts ρ' σ' ++ m ++ [(o, v)]).Perm ((o, v) :: (envIts ρ' σ' ++ m)) := by
      rw [← List.singleton_append (l := envIts ρ' σ' ++ m)]
      exact List.perm_append_comm
    exact p1.trans List.perm_middle.symm
  · obtain ⟨x', g1, g2⟩ := or_path r1 e
    rw [pa.inj g1]
    exact g2 _ fun b hb => k b (List.mem_append_left _ hb)
/-- what is wanted under the hold -/
theorem RG.held {α : Type} {r : Res α} {K K' : α → Env → Prop} {B' : Base} (hp : ∀ p ∈ B.pr, σ[p.1]? = some (some p.2)) (hb : ∀ (H' : Hp) (ρ' : Env) (m : List It1), At T B' H' ρ' σ m → At T B H' ρ' σ ((o, v) :: m))
    (h : RG T B W σ ((o, v) :: l) r K) (hK : ∀ a ρ, K a ρ → K' a ρ) : RG T B' W σ l r K' := by
  cases r with
  | ok a ρ => exact hK a ρ h
  | bad => exact h
  | exc C p ρ => exact fun d H its a e => h d H its ((hb H ρ _ a).perm List.perm_middle.symm) e
end
end PV
/-! PV16: methods that change their object -/
namespace PV
open PySem PySem.Spec PyProof.Rows L2
section
variable {T : Tab} {B : Base} {Φ : Phi} {W : WX} {X : Cx} {H H' : Hp} {hs : List Addr} {l m : List It1} {o y : O} {v w : V} {a : Addr} {own : Addr → Prop} {h : Hp} {ρ : Env} {σ : L2.St}
/-- a changing method by values -/
def rMu (T : Tab) (k : Mu) : V → List V → Hp → VK → Prop := fun x vs H Q => ∃ (B : Base) (o' : O) (os : List O) (l : List It1) (hs : List Addr) (r o1 : O), os.length = vs.length ∧ SatH T B H hs ((o', x) :: (os.zip vs ++ l)) ∧ muO k o' os = some (r, o1) ∧
  ∀ u H', (∀ b ∈ hs, H' b = H b) → SatH T B H' hs ((o1, x) :: (r, u) :: l) → Q u H'
theorem SatH.nin {p : Addr} (s : SatH T B H (p :: hs) l) : ∀ b ∈ hs, b ≠ p := fun b hb e => by
  obtain ⟨F, r, nd, c⟩ := s.reps
  have : (p :: (hs ++ F)).Nodup := nd
  exact (List.nodup_cons.mp this).1 (List.mem_append_left _ (e ▸ hb))
theorem lst_not {vs : List V} (e : H a = some (.lst vs)) : (∀ xs, H a ≠ some (.tup xs)) ∧ ∀ ob u, H a ≠ some (.frz ob u) := by
  constructor
  · intro xs z; rw [e] at z; cases z
  · intro ob u z; rw [e] at z; cases z
/-- a list is rewritten: the new things -/
theorem relist {os ns : List O} {vs ws : List V} {r : O} {u : V} (s : SatH T B H (a :: hs) (ns.zip ws ++ (r, u) :: l)) (e : H a = some (.lst vs)) (hl : ns.length = ws.length) :
    (∀ b ∈ hs, upd H a (.lst ws) b = H b) ∧ SatH T B (upd H a (.lst ws)) hs ((.lst ns, .ref a) :: (r, u) :: l) :=
  ⟨fun b hb => upd_ne (s.nin b hb), (s.write (lst_not e).1 (lst_not e).2).closeL upd_same hl⟩
theorem m_append : MtR X "list.append" (rMu T .append) := by
  intro pins s σ H x xs v us Q I rx rxs h
  obtain ⟨B, o', os, l, hs, r, o1, hl, sa, e, q⟩ := h
  cases o' with
  | lst zs =>
    match os, e with
    | [y], e =>
      have e : (if zs.length < sizeLine then some (O.d .non, O.lst (zs ++ [y])) else none) = some (r, o1) := e
      split at e
      · rename_i hz
        injection e with e
        injection e with e1 e2
        subst e1 e2
        match xs, hl with
        | [w], _ =>
          obtain ⟨a, vs, rfl, ha, hlv, s1⟩ := sa.openL
          have s2 : SatH T B H (a :: hs) ((zs ++ [y]).zip (vs ++ [w]) ++ ((.d .non, .non) :: l)) := by
            rw [List.zip_append hlv, List.append_assoc]
            have s3 : SatH T B H (a :: hs) (zs.zip vs ++ ((y, w) :: l)) := s1
            exact (s3.non.perm (by
              refine List.perm_middle.symm.trans (List.Perm.append_left _ ?_)
              exact .swap _ _ _))
          obtain ⟨g1, g2⟩ := relist (os := zs) s2 ha (by simp [hlv])
          exact mt_append pins s σ H _ _ v us Q I rx rxs ⟨a, vs, w, rfl, rfl, ha, by omega, q _ _ g1 g2⟩
      · cases e
    | [], e => cases e
    | _ :: _ :: _, e => cases e
  | _ => cases os <;> cases e
theorem m_pop : MtR X "list.pop" (rMu T .pop) := by
  intro pins s σ H x xs v us Q I rx rxs h
  obtain ⟨B, o', os, l, hs, r, o1, hl, sa, e, q⟩ := h
  cases o' with
  | lst zs =>
    match os, e with
    | [], e =>
      have e : (match zs[zs.length - 1]? with
        | some y => some (y, O.lst zs.dropLast)
        | none => none) = some (r, o1) := e
      cases ey : zs[zs.length - 1]? with
      | none => rw [ey] at e; cases e
      | some y =>
        rw [ey] at e
        injection e with e
        injection e with e1 e2
        subst e1 e2
        match xs, hl with
        | [], _ =>
          obtain ⟨a, vs, rfl, ha, hlv, s1⟩ := sa.openL
          obtain ⟨hj, _⟩ := List.getElem?_eq_some_iff.mp ey
          have hw : vs[vs.length - 1]? = some (vs[vs.length - 1]'(by omega)) := List.getElem?_eq_getElem (by omega)
          have ey' : zs[vs.length - 1]? = some y := by rw [← hlv]; exact ey
          obtain ⟨p1, _⟩ := zip_one ey' hw
          have er : (zs.zip vs).eraseIdx (vs.length - 1) = zs.dropLast.zip vs.dropLast := by
            rw [← hlv]
            have h1 : (zs.zip vs).length = zs.length := by simp [hlv]
            rw [← h1, List.eraseIdx_length_sub_one]
            rw [List.dropLast_eq_take, List.dropLast_eq_take, List.dropLast_eq_take]
            simp only [List.zip, List.take_zipWith, List.length_zipWith, hlv, Nat.min_self]
          rw [er] at p1
          have s2 : SatH T B H (a :: hs) (zs.dropLast.zip vs.dropLast ++ ((y, vs[vs.length - 1]'(by omega)) :: l)) := s1.perm ((p1.append_right l).trans List.perm_middle.symm)
          obtain ⟨g1, g2⟩ := relist (os := zs) s2 ha (by simp [hlv])
          exact mt_pop pins s σ H _ _ v us Q I rx rxs ⟨a, vs, _, rfl, rfl, ha, hw, q _ _ g1 g2⟩
    | _ :: _, e => cases e
  | _ => cases os <;> cases e
theorem m_popAt : MtR X "list.pop" (rMu T .popAt) := by
  intro pins s σ H x xs v us Q I rx rxs h
  obtain ⟨B, o', os, l, hs, r, o1, hl, sa, e, q⟩ := h
  cases o' with
  | lst zs =>
    match os, e with
    | [.d (.int i)], e =>
      have e : (match ixN zs.length i with
        | some k => (match zs[k]? with
          | some y => some (y, O.lst (zs.eraseIdx k))
          | none => none)
        | none => none) = some (r, o1) := e
      cases ek : ixN zs.length i with
      | none => simp only [ek] at e; cases e
      | some k =>
        simp only [ek] at e
        cases ey : zs[k]? with
        | none => simp only [ey] at e; cases e
        | some y =>
          simp only [ey] at e
          injection e with e
          injection e with e1 e2
          subst e1 e2
          match xs, hl with
          | [iv], _ =>
            obtain ⟨a, vs, rfl, ha, hlv, s1⟩ := sa.openL
            have ei : iv = .int i := (SatH.perm (m := (O.d (.int i), iv) :: (zs.zip vs ++ l)) s1 List.perm_middle).read
            subst ei
            obtain ⟨hj, _⟩ := List.getElem?_eq_some_iff.mp ey
            have hw : vs[k]? = some (vs[k]'(by omega)) := List.getElem?_eq_getElem (by omega)
            obtain ⟨p1, _⟩ := zip_one ey hw
            have er : (zs.zip vs).eraseIdx k = (zs.eraseIdx k).zip (vs.eraseIdx k) := by
              simp only [List.zip]
              apply List.ext_getElem?
              intro n
              simp only [List.getElem?_zipWith, List.getElem?_eraseIdx]
              split <;> rfl
            rw [er] at p1
            have s2 : SatH T B H (a :: hs) ((zs.eraseIdx k).zip (vs.eraseIdx k) ++ ((y, vs[k]'(by omega)) :: l)) := (SatH.drop1 (o := .d (.int i)) (v := .int i) (SatH.perm (m := (O.d (.int i), V.int i) :: (zs.zip vs ++ l)) s1 List.perm_middle)).perm ((p1.append_right l).trans List.perm_middle.symm)
            have hle : (zs.eraseIdx k).length = (vs.eraseIdx k).length := by
              rw [List.length_eraseIdx, List.length_eraseIdx, hlv]
            obtain ⟨g1, g2⟩ := relist (os := zs) s2 ha hle
            obtain ⟨b1, b2, b3, b4⟩ := ixN_seq ek
            obtain ⟨z, _⟩ := I.lstM ha
            have hsl := sizeLine_eq
            exact mt_popAt pins s σ H _ _ v us Q I rx rxs ⟨a, vs, i, k, _, rfl, rfl, ha, by omega, by omega, by rw [← hlv]; exact b1, hw, q _ _ g1 g2⟩
    | [], e => cases e
    | .d (.int _) :: _ :: _, e => cases e
  | _ => cases os <;> cases e
theorem m_clear : MtR X "list.clear" (rMu T .clear) := by
  intro pins s σ H x xs v us Q I rx rxs h
  obtain ⟨B, o', os, l, hs, r, o1, hl, sa, e, q⟩ := h
  cases o' with
  | lst zs =>
    match os, e with
    | [], e =>
      injection e with e
      injection e with e1 e2
      subst e1 e2
      match xs, hl with
      | [], _ =>
        obtain ⟨a, vs, rfl, ha, hlv, s1⟩ := sa.openL
        have s2 : SatH T B H (a :: hs) (([] : List O).zip ([] : List V) ++ ((.d .non, .non) :: l)) := (SatH.dropL s1).non
        obtain ⟨g1, g2⟩ := relist (os := zs) s2 ha rfl
        exact mt_clear pins s σ H _ _ v us Q I rx rxs ⟨a, vs, rfl, rfl, ha, q _ _ g1 g2⟩
    | _ :: _, e => cases e
  | _ => cases os <;> cases e
theorem m_insert : MtR X "list.insert" (rMu T .insert) := by
  intro pins s σ H x xs v us Q I rx rxs h
  obtain ⟨B, o', os, l, hs, r, o1, hl, sa, e, q⟩ := h
  cases o' with
  | lst zs =>
    match os, e with
    | [.d (.int i), y], e =>
      have e : (if zs.length < sizeLine ∧ 0 ≤ i ∧ i < 2 ^ 63 then some (O.d .non, O.lst (zs.take i.toNat ++ [y] ++ zs.drop i.toNat)) else none) = some (r, o1) := e
      split at e
      · rename_i hz
        injection e with e
        injection e with e1 e2
        subst e1 e2
        match xs, hl with
        | [iv, w], _ =>
          obtain ⟨a, vs, rfl, ha, hlv, s1⟩ := sa.openL
          have ei : iv = .int i := (SatH.perm (m := (O.d (.int i), iv) :: (zs.zip vs ++ (y, w) :: l)) s1 List.perm_middle).read
          subst ei
          have s3 : SatH T B H (a :: hs) (zs.zip vs ++ ((y, w) :: l)) := SatH.drop1 (o := .d (.int i)) (v := .int i) (SatH.perm (m := (O.d (.int i), V.int i) :: (zs.zip vs ++ (y, w) :: l)) s1 List.perm_middle)
          have ez : (zs.take i.toNat ++ [y] ++ zs.drop i.toNat).zip (vs.take i.toNat ++ [w] ++ vs.drop i.toNat) = (zs.zip vs).take i.toNat ++ [(y, w)] ++ (zs.zip vs).drop i.toNat := by
            rw [List.zip_append (by simp [hlv]), List.zip_append (by simp [hlv])]
            simp only [List.zip, List.take_zipWith, List.drop_zipWith]
            rfl
          have s2 : SatH T B H (a :: hs) ((zs.take i.toNat ++ [y] ++ zs.drop i.toNat).zip (vs.take i.toNat ++ [w] ++ vs.drop i.toNat) ++ ((.d .non, .non) :: l)) := by
            rw [ez]
            refine s3.non.perm ?_
            have p0 : (zs.zip vs ++ (y, w) :: l).Perm ((y, w) :: (zs.zip vs ++ l)) := List.perm_middle
            have p1 : ((O.d .non, V.non) :: (zs.zip vs ++ (y, w) :: l)).Perm ((y, w) :: (O.d .non, V.non) :: (zs.zip vs ++ l)) := (p0.cons _).trans (.swap _ _ _)
            refine p1.trans ?_
            rw [List.append_assoc, List.append_assoc]
            have p2 : ((y, w) :: (O.d .non, V.non) :: (zs.zip vs ++ l)).Perm ((y, w) :: (zs.zip vs ++ (O.d .non, V.non) :: l)) := List.perm_middle.symm.cons _
            refine p2.trans ?_
            have e3 : zs.zip vs ++ (O.d .non, V.non) :: l = (zs.zip vs).take i.toNat ++ ((zs.zip vs).drop i.toNat ++ (O.d .non, V.non) :: l) := by rw [← List.append_assoc, List.take_append_drop]
            rw [e3]
            exact List.perm_middle.symm
          obtain ⟨g1, g2⟩ := relist (os := zs) s2 ha (by simp [hlv])
          exact mt_insert pins s σ H _ _ v us Q I rx rxs ⟨a, vs, i, w, rfl, rfl, ha, by omega, hz.2.1, hz.2.2, q _ _ g1 g2⟩
      · cases e
    | [], e => cases e
    | [.d (.int _)], e => cases e
    | .d (.int _) :: _ :: _ :: _, e => cases e
  | _ => cases os <;> cases e
theorem list_extendS (l : Addr) (items : Array Value) (n : Nat) (b : Addr) (items2 : Array Value) (n2 : Nat) (sl2 : Array (Option Value)) (hc0 : ¬(!items.isEmpty && Builtin.List.listTooLong (items.size + items2.size)) = true) (hc1 : items.size ≤ sizeLine) (hs2 : items.size + items2.size ≤ sizeLine + 1) :
    Meets (Builtin.«list.extend» ⟨[.ref l, .ref b], []⟩) (fun _ R s => s.heap.get? l = some { cls := .type "list", dict := none, data := .seq items n, slots := #[] } ∧ s.heap.get? b = some { cls := .type "list", dict := none, data := .seq items2 n2, slots := sl2 } ∧ R (.ok (.ret Value.none)) { s with heap := s.heap.update l (Obj.mapSeq fun x => x ++ items2), toks := s.toks }) :=
  .of_wp fun prog w A R s h => by
    obtain ⟨hp, g, d, tk, os⟩ := s; obtain ⟨hl, hb, h⟩ := h; have f1 := PySem.AutoSeq1.idx_int; have f2 := PySem.AutoSeq1.sub_tuple_tuple; have f3 := PySem.AutoSeq1.sub_list_list; have f4 := PySem.AutoSeq1.sub_tuple_list; have f5 := PySem.AutoSeq1.sub_list_tuple;
    have hz' : (items ++ items2).size ≤ sizeLine + 1 := by rw [Array.size_append]; exact hs2
    wp_walk using (wpAny_updateSeq hl rfl (hz := hc1) (_hz' := hz')), PySem.AutoSeq1.wpAny_loadPart' hl, PySem.AutoSeq1.wpAny_loadPart' hb; exact ⟨_, rfl, h⟩
/-- xs.extend(ys), ys as it may be read -/
theorem mt_extendS : MtR X "list.extend" (fun x vs H Q => ∃ l b xs zs, x = .ref l ∧ vs = [.ref b] ∧ H l = some (.lst xs) ∧ SqL X.K H b zs ∧ xs.length + zs.length ≤ sizeLine ∧ Q .non (upd H l (.lst (xs ++ zs)))) := by
  intro pins s σ H x vs v us Q I rx rv h
  obtain ⟨l, b, xs, zs, rfl, rfl, hH, hB, hz, q⟩ := h
  cases rx
  obtain ⟨u, rfl, ru⟩ := rv.one
  cases ru
  obtain ⟨z, its, n, r, hl, e⟩ := I.lstM hH
  obtain ⟨its2, r2, pl2, _⟩ := I.list hB
  have hl2 := r2.length
  obtain ⟨⟨cls2, dd2, data2, sl2⟩, n2, ho2, hc2, hd02, hd2⟩ := pl2
  simp only at hc2 hd2 hd02
  subst hc2 hd2 hd02
  have hsz : its.toArray.size + its2.toArray.size ≤ sizeLine := by rw [List.size_toArray, List.size_toArray]; omega
  have hlong : ¬ (!its.toArray.isEmpty && Builtin.List.listTooLong (its.toArray.size + its2.toArray.size)) = true := by
    rw [notLongL hsz, Bool.and_false]
    exact Bool.false_ne_true
  refine call_meets F.slot_list_extend ⟨_, e, rfl⟩ F.entry_list_extend (F.args_list_extend_2 _ _)
    (list_extendS l its.toArray n b its2.toArray n2 sl2 hlong (by rw [List.size_toArray]; omega) (by omega)) ⟨e, ho2, ?_⟩
  refine ⟨.non, _, I.lset (its' := its ++ its2) hH e (by simp) (r.append r2) ?_, rfl, q⟩
  rw [List.length_append]
  omega
theorem m_extend (hK : X.K = T.K) : MtR X "list.extend" (rMu T .extend) := by
  intro pins s σ H x xs v us Q I rx rxs h
  obtain ⟨B, o', os, l, hs, r, o1, hl, sa, e, q⟩ := h
  cases o' with
  | lst zs =>
    match os, e with
    | [.lst ys], e =>
      match xs, hl with
      | [w], _ =>
      have e : (if zs.length + ys.length ≤ sizeLine then some (O.d .non, O.lst (zs ++ ys)) else none) = some (r, o1) := e
      split at e
      · rename_i hz
        injection e with e
        injection e with e1 e2
        subst e1 e2
        obtain ⟨a, vs, rfl, ha, hlv, s1⟩ := sa.openL
        have s2 : SatH T B H (a :: hs) ((.lst ys, w) :: (zs.zip vs ++ l)) := s1.perm List.perm_middle
        obtain ⟨b, ws, rfl, hb, hlw, s3⟩ := s2.openL
        have s4 : SatH T B H (a :: hs) (ys.zip ws ++ (zs.zip vs ++ l)) := s3.letgo
        have s5 : SatH T B H (a :: hs) ((zs ++ ys).zip (vs ++ ws) ++ ((.d .non, .non) :: l)) := by
          rw [List.zip_append hlv, List.append_assoc]
          refine s4.non.perm ?_
          have p1 : ((O.d .non, V.non) :: (ys.zip ws ++ (zs.zip vs ++ l))).Perm ((O.d .non, V.non) :: (zs.zip vs ++ (ys.zip ws ++ l))) := swap_its.cons _
          refine p1.trans (List.perm_middle.symm.trans (List.Perm.append_left _ List.perm_middle.symm))
        obtain ⟨g1, g2⟩ := relist (os := zs) s5 ha (by simp [hlv, hlw])
        exact mt_extendS pins s σ H _ _ v us Q I rx rxs ⟨a, b, vs, ws, rfl, rfl, ha, SqL.of hb, by omega, q _ _ g1 g2⟩
      · cases e
    | [.d (.lst ys)], e =>
      match xs, hl with
      | [w], _ =>
      have e : (if zs.length + ys.length ≤ sizeLine then some (O.d .non, O.lst (zs ++ ys.map .d)) else none) = some (r, o1) := e
      split at e
      · rename_i hz
        injection e with e
        injection e with e1 e2
        subst e1 e2
        obtain ⟨a, vs, rfl, ha, hlv, s1⟩ := sa.openL
        have s2 : SatH T B H (a :: hs) ((.d (.lst ys), w) :: (zs.zip vs ++ l)) := s1.perm List.perm_middle
        obtain ⟨b, ws, rfl, hb, hlw, s3⟩ := Sat.kidsL s2 rfl
        have s4 : SatH T B H (a :: hs) ((ys.map O.d).zip ws ++ (zs.zip vs ++ l)) := by
          have : SatH T B H (a :: hs) ((O.shal (.d (.lst ys)), V.ref b) :: ((ys.map O.d).zip ws ++ (zs.zip vs ++ l))) := s3.perm List.perm_middle
          exact this.drop1
        have s5 : SatH T B H (a :: hs) ((zs ++ ys.map O.d).zip (vs ++ ws) ++ ((.d .non, .non) :: l)) := by
          rw [List.zip_append hlv, List.append_assoc]
          refine s4.non.perm ?_
          have p1 : ((O.d .non, V.non) :: ((ys.map O.d).zip ws ++ (zs.zip vs ++ l))).Perm ((O.d .non, V.non) :: (zs.zip vs ++ ((ys.map O.d).zip ws ++ l))) := swap_its.cons _
          refine p1.trans (List.perm_middle.symm.trans (List.Perm.append_left _ List.perm_middle.symm))
        obtain ⟨g1, g2⟩ := relist (os := zs) s5 ha (by simp [hlv, hlw])
        exact mt_extendS pins s σ H _ _ v us Q I rx rxs ⟨a, b, vs, ws, rfl, rfl, ha, by rw [hK]; exact hb, by omega, q _ _ g1 g2⟩
      · cases e
    | [], e => cases e
    | [.d .non], e => cases e
    | [.d (.bl _)], e => cases e
    | [.d (.int _)], e => cases e
    | [.d (.str _)], e => cases e
    | [.d (.tup _)], e => cases e
    | [.d (.dic _ _)], e => cases e
    | [.d (.obj _ _ _)], e => cases e
    | [.d (.exc _ _)], e => cases e
    | [.tup _], e => cases e
    | [.dic _ _], e => cases e
    | [.obj _ _ _], e => cases e
    | .lst _ :: _ :: _, e => cases e
    | .tup _ :: _ :: _, e => cases e
    | .dic _ _ :: _ :: _, e => cases e
    | .obj _ _ _ :: _ :: _, e => cases e
    | .d d :: _ :: _, e => cases d <;> cases e
  | _ => cases os <;> cases e
/-! ### receivers -/
/-- one subscript down -/
theorem ix_step (hu : X.A.units + 1 < cLine) : IxR X (fun x y H Q => ∃ a w, x = .ref a ∧ ((∃ vs i, Rd H a (.lst vs) ∧ y = .int i ∧ atI vs i = some w) ∨ DGet H a y (some w)) ∧ Q w H) := by
  intro value slice pins s σ H x y v u Q I rx ry h hs
  obtain ⟨a, w, rfl, h, q⟩ := h
  rcases h with ⟨vs, i, ha, rfl, hi⟩ | h
  · exact ix_list value slice pins s σ H _ _ v u Q I rx ry ⟨a, vs, i, w, rfl, rfl, .inl ha, hi, q⟩ hs
  · exact ix_dict hu value slice pins s σ H _ _ v u Q I rx ry ⟨a, w, rfl, h, q⟩ hs
theorem step_use {k : D} {x w y : V} {own : Addr → Prop} (s : SatH T B H hs l) (st : StepAt T (vw B.Z H) x k w) (d : Dr T own (vw B.Z H) k y) : ∃ a, x = .ref a ∧ ((∃ vs i, Rd H a (.lst vs) ∧ y = .int i ∧ atI vs i = some w) ∨ DGet H a y (some w)) := by
  obtain ⟨a, rfl, st⟩ := st
  refine ⟨a, rfl, ?_⟩
  rcases st with ⟨vs, i, h1, rfl, h2⟩ | (⟨kvs, kk, h1, h2, h3⟩ | ⟨kvs, kk, h1, h2, h3⟩) | ⟨C, dx, fs, f, h1, rfl, h2⟩
  · exact .inl ⟨vs, i, rd_vw s (fun _ _ z => nomatch z) (.inl h1), d, h2⟩
  · exact .inr (.inl ⟨kvs, kk, rd_dK s h1, key_val h2 d, h3.symm⟩)
  · obtain ⟨b, e1, e2⟩ := tkey_val h2 s d
    exact .inr (.inr ⟨kvs, kk, b, rd_dT s h1, e1, e2, h3.symm⟩)
  · exact d.elim
end
section
variable {T : Tab} {B : Base} {Φ : Phi} {W : WX} {X : Cx} {i : Nat} {x : Str} {pos : Pos}
theorem RG.unX {σ : L2.St} {l : List It1} {α : Type} {r : Res α} {K : α → Env → Prop} (h : RG T B W σ l r.noX K) : RG T B W σ l r K := by
  cases r with
  | ok a ρ => exact h
  | exc C p ρ => exact h.elim
  | bad => exact h
/-- a receiver: slot i, down the path -/
def tRc (T : Tab) (B : Base) (Φ : Phi) (W : WX) (i : Nat) (rp : List SE) : TE := fun σ H Q => ∃ ρ l o v, At T B H ρ σ ((o, v) :: l) ∧ σ[i]? = some (some v) ∧ RG T B W σ ((o, v) :: l) (evKs Φ rp ρ) fun ks ρ' => (∃ p, pathO ks o (fun o => some (o, o)) = some p) ∧ ∀ H' x, At T B H' ρ' σ ((o, v) :: l) → PathAt T (vw B.Z H') v ks x → Q x H'
theorem s_rc0 (hN : X.N[i]? = some x) (hv : Vis X.env.scope x) (hd : (x == ("__debug__" : Str)) = false) (hc : (x == ("__classdict__" : Str)) = false) : PE X (.Name x pos) (tRc T B Φ W i []) :=
  (pe_var hN hv hd hc).pv fun σ H Q ⟨ρ, l, o, v, a, ev, h⟩ => by
    rw [evKs] at h
    exact ⟨v, ev, h.2 H v a rfl⟩
theorem s_rc1 (hu : X.A.units + 200 < cLine) {e k : Expr} {sk : SE} {rp : List SE} (he : PE X e (tRc T B Φ W i rp)) (hk : ∀ B' : Base, B'.pr = B.pr → PE X k (tE T B' Φ W sk)) (hs : PlainIx k) : PE X (.Subscript e k pos) (tRc T B Φ W i (sk :: rp)) := by
  refine ⟨fun pins s σ H Q I h => ?_⟩
  obtain ⟨ρ, l, o, v, a, evi, h⟩ := h
  rw [evKs] at h
  refine Subscript_ (thn (he.run pins s σ H (fun x H1 => ∃ (B' : Base), B'.pr = B.pr ∧ tE T B' Φ W sk σ H1 fun y H2 => ∃ a w, x = .ref a ∧ ((∃ vs i, Rd H2 a (.lst vs) ∧ y = .int i ∧ atI vs i = some w) ∨ DGet H2 a y (some w)) ∧ Q w H2) I ⟨ρ, l, o, v, a, evi, h.bind.mono fun ks ρ1 k1 => ?_⟩) ?_)
  · have k1 := k1.bind
    refine ⟨?_, fun H1 x a1 pa => ?_⟩
    · cases e1 : ev Φ sk ρ1 with
      | bad => rw [e1] at k1; exact k1.elim
      | ok ok ρ2 =>
        rw [e1] at k1
        obtain ⟨⟨p, hp⟩, _⟩ := k1
        obtain ⟨r, o2⟩ := p
        exact path_pre hp
      | exc C p ρ2 => rw [e1] at k1; exact k1.elim
    · obtain ⟨B', hpr, a2, back⟩ := a1.hold
      refine ⟨B', hpr, ρ1, l, a2, RG.rp (RG.held (K := _) (fun p hp => a1.pr p hp) (fun H' ρ' m a' => (back H' ρ' σ m a1.pr a').1) k1.unX fun ok ρ2 k2 => ?_)⟩
      intro y H2 a3
      obtain ⟨a4, pres⟩ := back H2 ρ2 σ _ a1.pr a3
      obtain ⟨⟨p, hp⟩, k3⟩ := k2
      obtain ⟨r, o2⟩ := p
      have s4 : Sat T B H2 ((o, v) :: (ok, y) :: (envIts ρ2 σ ++ l)) := a4.sat.perm (List.perm_middle.trans (List.perm_middle.cons _))
      obtain ⟨o', w, ad, rest, o1, pw, _, _, _⟩ := path_open s4 hp
      obtain ⟨x', p1, p2⟩ := pw.unsnoc
      obtain ⟨q0, hq0⟩ := path_pre hp
      have px := pres ks _ _ x hq0 pa
      rw [px.inj p1]
      obtain ⟨a', ea, hst⟩ := step_use s4 p2 (SatH.read2 s4)
      refine ⟨a', w, ea, hst, k3 H2 w ?_ pw⟩
      exact (a4.perm (.swap _ _ _)).drop
  · rintro u s1 ⟨x, H1, I1, r1, B', hpr, q1⟩
    refine thn ((hk B' hpr).run pins s1 σ H1 _ I1 q1) fun iv s2 ⟨y, H2, I2, r2, q2⟩ => ?_
    exact ix_step (by omega) e k pins s2 σ H2 x y u iv Q I2 r1 r2 q2 (hs _ _)
/-- one field down -/
theorem s_rcf {C : Nat} {f : Str} {e : Expr} {rp : List SE} (cl : Cls X.K (T.cls C) ∧ NoAttr X.K (T.cls C) f) (hb : attributeBase e f X.env (eval e X.env) = eval e X.env) (he : PE X e (tRc T B Φ W i rp)) : PE X (.Attribute e f pos) (tRc T B Φ W i (.lit (.exc C [.str f]) :: rp)) := by
  refine (pe_fld he hb).pv fun σ H Q ⟨ρ, l, o, v, a, evi, h⟩ => ?_
  rw [evKs] at h
  refine ⟨ρ, l, o, v, a, evi, h.bind.mono fun ks ρ1 k1 => ?_⟩
  have k1 := k1.bind
  rw [ev] at k1
  have k1 : (∃ p, pathO (ks ++ [.exc C [.str f]]) o (fun o => some (o, o)) = some p) ∧ ∀ H' x, At T B H' ρ1 σ ((o, v) :: l) → PathAt T (vw B.Z H') v (ks ++ [.exc C [.str f]]) x → Q x H' := k1
  obtain ⟨⟨p, hp⟩, k2⟩ := k1
  obtain ⟨r, o2⟩ := p
  refine ⟨path_pre hp, fun H1 x a1 pa => ?_⟩
  have s4 : Sat T B H1 ((o, v) :: (envIts ρ1 σ ++ l)) := a1.sat.perm List.perm_middle
  obtain ⟨o', w, ad, rest, o1, pw, _, _, _⟩ := path_open s4 hp
  obtain ⟨x', p1, p2⟩ := pw.unsnoc
  rw [pa.inj p1]
  obtain ⟨b, rfl, st⟩ := p2
  rcases st with ⟨vs, i, h1, z, h2⟩ | (⟨kvs, kk, h1, z, h3⟩ | ⟨kvs, kk, h1, z, h3⟩) | ⟨C', dx, fs, f', h1, z, h2⟩
  · cases z
  · cases z
  · cases z
  · injection z with z1 z2
    injection z2 with z2 _
    injection z2 with z2
    subst z1 z2
    have h1' : H1 b = some (.ins (T.cls C) dx fs) := by
      rcases vw_some h1 with e | ⟨z, o, e⟩
      · exact e
      · obtain ⟨u2, h1, mu⟩ := s4.lk b z
        rw [e] at h1
        cases h1
        exact mu.elim
    exact ⟨b, T.cls C, dx, fs, w, rfl, h1', cl.1, cl.2, h2, k2 H1 w a1 pw⟩
/-- the receiver's type and the rest -/
theorem mu_go {k : Mu} {i : Nat} {rp : List SE} {ses : List SE} {σ : L2.St} {H : Hp} {ρ : Env} {l : List It1} {Q : VK} (a : At T B H ρ σ l) (h : RG T B W σ l (ev Φ (.mu k i rp ses) ρ) fun o ρ => ∀ v H, At T B H ρ σ ((o, v) :: l) → Q v H) (hK : X.K = T.K) :
    tRc T B Φ W i rp σ H fun x H1 => tyV X.K "list" x H1 ∧ ∃ B' : Base, B'.pr = B.pr ∧ tL T B' Φ W ses σ H1 fun xs H2 => rMu T k x xs H2 Q := by
  rw [ev] at h
  obtain ⟨o, eo, h⟩ := h.bnd
  obtain ⟨v, ev⟩ := a.ok.at eo
  have a0 := a.take eo ev
  have hi : i < σ.length := slot_lt' ev
  refine ⟨ρ.set i none, l, o, v, a0, ev, RG.more1 (h.bind.mono fun ks ρ1 k1 => ?_)⟩
  obtain ⟨q1, hq1, k1⟩ := k1.bnd
  obtain ⟨r1, o2⟩ := q1
  refine ⟨path_f hq1 fun _ _ => rfl, fun H1 x a1 pa => ⟨?_, ?_⟩⟩
  · have s1 : Sat T B H1 ((o, v) :: (envIts ρ1 σ ++ l)) := a1.sat.perm List.perm_middle
    obtain ⟨o', x', ad, rest, o1, p1, e1, s2, _⟩ := path_open s1 hq1
    rw [pa.inj p1]
    obtain ⟨_, em, _⟩ := Option.map_eq_some_iff.mp e1
    cases o' with
    | lst zs =>
      obtain ⟨b, vs, rfl, hb, _, _⟩ := s2.openL
      exact .inl ⟨rfl, vs, SqL.of hb⟩
    | _ => cases em
  · obtain ⟨B', hpr, a2, back⟩ := a1.hold
    refine ⟨B', hpr, ρ1, l, a2, RG.held (K := _) (fun p hp => a1.pr p hp) (fun H' ρ' m a' => (back H' ρ' σ m a1.pr a').1) (RG.more1 k1.bind) fun os ρ2 k2 vs H2 hl a3 => ?_⟩
    obtain ⟨a4, pres⟩ := back H2 ρ2 σ _ a1.pr a3
    obtain ⟨q2, hq2, k3⟩ := k2.bnd
    obtain ⟨r, o3⟩ := q2
    have s4 : Sat T B H2 ((o, v) :: (os.zip vs ++ (envIts ρ2 σ ++ l))) := a4.sat.perm (List.perm_middle.trans (swap_its.cons _))
    obtain ⟨o', x', ad, rest, o1, p1, e1, s5, close⟩ := path_open s4 hq2
    have px := pres ks _ _ x hq1 pa
    have ex : x = x' := px.inj p1
    subst ex
    have k3 : ∀ u H, At T B H (ρ2.set i (some o3)) σ ((r, u) :: l) → Q u H := k3
    refine ⟨B, o', os, rest ++ (envIts ρ2 σ ++ l), ad ++ [], r, o1, hl, s5.perm (swap_its.cons _), e1, fun u H' hb s6 => k3 u H' ?_⟩
    have s7 : SatH T B H' [] ((o3, v) :: ((r, u) :: (envIts ρ2 σ ++ l))) := close H' _ (fun b hb' => hb b (by simp [hb'])) (s6.perm (by
      have p1 : ((r, u) :: (rest ++ (envIts ρ2 σ ++ l))).Perm (rest ++ (r, u) :: (envIts ρ2 σ ++ l)) := List.perm_middle.symm
      exact p1.cons _))
    have a5 : At T B H' ρ2 σ ((o3, v) :: (r, u) :: l) := ⟨a3.ok, s7.perm (by
      have p1 : ((o3, v) :: (r, u) :: (envIts ρ2 σ ++ l)).Perm ((o3, v) :: (envIts ρ2 σ ++ (r, u) :: l)) := List.perm_middle.symm.cons _
      exact p1.trans List.perm_middle.symm), a1.pr⟩
    have hi2 : i < ρ2.length := by rw [a3.ok.len]; exact hi
    have t := (a5.clear i).fill (i := i) (by unfold slotE; rw [List.getElem?_set_self hi2]; rfl) (by simpa using hi2) ev
    rw [List.set_set] at t
    exact t
section
variable {e : Expr} {es : List Expr} {ses rp : List SE} {k : Mu} {nm : Str} {id : String} {apos cpos : Pos}
theorem s_mu0 (hK : X.K = T.K) (slot : Slot "list" nm id) (hty : typeOf (.builtin id) = pure (.type "method_descriptor")) (hm : MtR X id (rMu T k)) (he : PE X e (tRc T B Φ W i rp))
    (hbase : attributeBase e nm X.env (eval e X.env) = eval e X.env) (hline : (apos.endLine == cpos.line) = true) : PE X (.Call (.Attribute e nm apos) [] [] cpos) (tE T B Φ W (.mu k i rp [])) :=
  (pe_bm0 PySem.F.plainAttrs_list slot hty hm he hbase hline).pv fun σ H Q ⟨ρ, l, a, h⟩ => by
    obtain ⟨ρ', l', o, v, a1, ev, h1⟩ := mu_go (X := X) a h.rg hK
    refine ⟨ρ', l', o, v, a1, ev, h1.mono fun ks ρ1 ⟨p, k1⟩ => ⟨p, fun H' x a2 pa => ?_⟩⟩
    obtain ⟨ty, B', hpr, ρ2, l2, a3, k2⟩ := k1 H' x a2 pa
    rw [evL] at k2
    have k2 : ∀ vs H', ([] : List O).length = vs.length → At T B' H' ρ2 σ (([] : List O).zip vs ++ l2) → rMu T k x vs H' Q := k2
    exact ⟨ty, k2 [] H' rfl a3⟩
theorem s_mu {e1 : Expr} (hK : X.K = T.K) (slot : Slot "list" nm id) (hty : typeOf (.builtin id) = pure (.type "method_descriptor")) (hm : MtR X id (rMu T k)) (he : PE X e (tRc T B Φ W i rp)) (ha : ∀ B' : Base, B'.pr = B.pr → PA X (e1 :: es) (tL T B' Φ W ses))
    (hbase : attributeBase e nm X.env (eval e X.env) = eval e X.env)
    (hfew : ((backTo cpos (starEach (e1 :: es) X.env)).all (fun x => !x.1) && (backToKw cpos (keywordEach [] X.env)).all (fun x => x.1.isSome)
      && decide ((e1 :: es).length + ([] : List Keyword).length + (if ([] : List Keyword).isEmpty then 0 else 1) < 30)) = true)
    (hline : (apos.endLine == cpos.line) = true) (hs : starEach (e1 :: es) X.env = (false, eval e1 X.env) :: starEach es X.env) (hplain : (backTo cpos (starEach es X.env)).any (·.1) = false) :
    PE X (.Call (.Attribute e nm apos) (e1 :: es) [] cpos) (tE T B Φ W (.mu k i rp ses)) := by
  have hA : PA X (e1 :: es) (fun σ H Q => ∃ B' : Base, B'.pr = B.pr ∧ tL T B' Φ W ses σ H Q) := ⟨fun pos pins s σ H Q I ⟨B', hpr, h⟩ => (ha B' hpr).run pos pins s σ H Q I h⟩
  exact (pe_bm PySem.F.plainAttrs_list slot hty hm he hA hbase hfew hline hs hplain).pv fun σ H Q ⟨ρ, l, a, h⟩ => mu_go a h.rg hK
end
end
end PV
/-! PV17: what is walked -/
namespace PV
open PySem PySem.Spec PyProof.Rows L2
/-- J walks ds while the things of held stand -/
structure Wk (T : Tab) (B : Base) (J : It) (ds : List D) (held : List It1) : Prop where
  goes : ∀ i H l, i < ds.length → Sat T B H (held ++ l) → J.go i H
  stops : ∀ H l, Sat T B H (held ++ l) → J.stop ds.length H
  yields : ∀ i H v H' l, i < ds.length → Sat T B H (held ++ l) → J.yld i H v H' → ∃ d, ds[i]? = some d ∧ Sat T B H' ((.d d, v) :: (held ++ l))
section
variable {T : Tab} {B : Base} {Φ : Phi} {W : WX} {X : Cx} {K : PySem.W.Frag}
theorem get_two {xs : List D} {vs : List V} (hl : xs.length = vs.length) {i : Nat} (hi : i < xs.length) : ∃ d w, xs[i]? = some d ∧ vs[i]? = some w := ⟨xs[i], vs[i]'(by omega), List.getElem?_eq_getElem hi, List.getElem?_eq_getElem (by omega)⟩
theorem wk_list {o : O} {a : Addr} {xs : List D} (e : o.frz = .lst xs) : Wk T B (Itl T.K a) xs [(o.shal, .ref a)] := by
  have e' : o.shal.frz = .lst xs := by rw [shal_frz, e]
  have rd : ∀ {H : Hp} {l : List It1}, Sat T B H ((o.shal, .ref a) :: l) → ∃ vs, SqL T.K H a vs ∧ xs.length = vs.length ∧ SatH T B H [] ((xs.map O.d).zip vs ++ (o.shal, .ref a) :: l) := fun {H l} s => by
    obtain ⟨b, vs, eb, ha, hl, s1⟩ := Sat.kidsL s e'
    cases eb
    have : o.shal.shal = o.shal := by
      cases o <;> simp only [O.shal, List.map_map] <;> congr 1
    rw [this] at s1
    exact ⟨vs, ha, hl, s1⟩
  refine ⟨fun i H l hi s => ?_, fun H l s => ?_, fun i H v H' l hi s y => ?_⟩
  · obtain ⟨vs, ha, hl, _⟩ := rd s
    obtain ⟨d, w, _, hw⟩ := get_two hl hi
    exact ⟨vs, w, ha, hw⟩
  · obtain ⟨vs, ha, hl, _⟩ := rd s
    exact ⟨vs, ha, by omega⟩
  · obtain ⟨vs, ha, hl, s1⟩ := rd s
    obtain ⟨d, w, hd, hw⟩ := get_two hl hi
    obtain ⟨rfl, y⟩ := y
    have := y vs ha
    rw [hw] at this
    cases this
    exact ⟨d, hd, SatH.pick (zip_get hd hw) s1⟩
theorem wk_tup {o : O} {a : Addr} {xs : List D} (e : o.frz = .tup xs) : Wk T B (Itt T.K a) xs [(o.shal, .ref a)] := by
  have e' : o.shal.frz = .tup xs := by rw [shal_frz, e]
  have rd : ∀ {H : Hp} {l : List It1}, Sat T B H ((o.shal, .ref a) :: l) → ∃ vs, SqT T.K H a vs ∧ xs.length = vs.length ∧ SatH T B H [] ((xs.map O.d).zip vs ++ (o.shal, .ref a) :: l) := fun {H l} s => by
    obtain ⟨b, vs, eb, ha, hl, s1⟩ := Sat.kidsT s e'
    cases eb
    have : o.shal.shal = o.shal := by
      cases o <;> simp only [O.shal, List.map_map] <;> congr 1
    rw [this] at s1
    exact ⟨vs, ha, hl, s1⟩
  refine ⟨fun i H l hi s => ?_, fun H l s => ?_, fun i H v H' l hi s y => ?_⟩
  · obtain ⟨vs, ha, hl, _⟩ := rd s
    obtain ⟨d, w, _, hw⟩ := get_two hl hi
    exact ⟨vs, w, ha, hw⟩
  · obtain ⟨vs, ha, hl, _⟩ := rd s
    exact ⟨vs, ha, by omega⟩
  · obtain ⟨vs, ha, hl, s1⟩ := rd s
    obtain ⟨d, w, hd, hw⟩ := get_two hl hi
    obtain ⟨rfl, y⟩ := y
    have := y vs ha
    rw [hw] at this
    cases this
    exact ⟨d, hd, SatH.pick (zip_get hd hw) s1⟩
theorem wk_str {z : Str} {held : List It1} : Wk T B (Its z) (z.cps.toList.map fun c => .str ⟨#[c]⟩) held := by
  refine ⟨fun i H l hi s => ?_, fun H l s => ?_, fun i H v H' l hi s y => ?_⟩
  · show i < z.cps.size
    simpa using hi
  · show z.cps.size ≤ _
    simp
  · obtain ⟨rfl, c, hc, rfl⟩ := y
    refine ⟨.str ⟨#[c]⟩, ?_, s.str⟩
    rw [List.getElem?_map, Array.getElem?_toList, hc]; rfl
theorem wk_range {lo : Int} {n : Nat} {held : List It1} : Wk T B (Itr lo n) (rangeL lo n) held := by
  have hl : (rangeL lo n).length = n := by simp [rangeL]
  refine ⟨fun i H l hi s => ?_, fun H l s => ?_, fun i H v H' l hi s y => ?_⟩
  · show i < n
    rw [← hl]; exact hi
  · show n ≤ _
    rw [hl]
    exact Nat.le_refl _
  · obtain ⟨rfl, rfl⟩ := y
    refine ⟨.int (lo + (i : Nat)), ?_, s.int⟩
    rw [hl] at hi
    simp [rangeL, hi]
theorem SatH.newPair {d1 d2 : D} {x y : V} {p : Addr} {H : Hp} {l : List It1} (s : Sat T B H ((.d d1, x) :: (.d d2, y) :: l)) (n : H p = none) : Sat T B (upd H p (.tup [x, y])) ((.d (.tup [d1, d2]), .ref p) :: l) :=
  Sat.newTd (xs := [d1, d2]) (vs := [x, y]) s rfl n
theorem shal2 (o : O) : o.shal.shal = o.shal := by
  cases o <;> simp only [O.shal, List.map_map] <;> congr 1
theorem enumD_get : ∀ {xs : List D} {n i : Nat}, (enumD n xs)[i]? = (xs[i]?).map fun x => .tup [.int ((n + i : Nat) : Int), x]
  | [], n, i => by simp [enumD]
  | x :: xs, n, 0 => by simp [enumD]
  | x :: xs, n, i + 1 => by
    rw [enumD, List.getElem?_cons_succ, enumD_get, List.getElem?_cons_succ]
    rw [show n + 1 + i = n + (i + 1) by omega]
theorem enumD_len : ∀ {xs : List D} {n : Nat}, (enumD n xs).length = xs.length
  | [], n => rfl
  | x :: xs, n => by simp [enumD, enumD_len (xs := xs)]
theorem wk_enum {o : O} {a : Addr} {xs : List D} (e : o.frz = .lst xs) : Wk T B (Ite T.K a) (enumD 0 xs) [(o.shal, .ref a)] := by
  have e' : o.shal.frz = .lst xs := by rw [shal_frz, e]
  have rd : ∀ {H : Hp} {l : List It1}, Sat T B H ((o.shal, .ref a) :: l) → ∃ vs, SqL T.K H a vs ∧ xs.length = vs.length ∧ SatH T B H [] ((xs.map O.d).zip vs ++ (o.shal, .ref a) :: l) := fun {H l} s => by
    obtain ⟨b, vs, eb, ha, hl, s1⟩ := Sat.kidsL s e'
    cases eb
    rw [shal2] at s1
    exact ⟨vs, ha, hl, s1⟩
  refine ⟨fun i H l hi s => ?_, fun H l s => ?_, fun i H v H' l hi s y => ?_⟩
  · obtain ⟨vs, ha, hl, _⟩ := rd s
    rw [enumD_len] at hi
    obtain ⟨d, w, _, hw⟩ := get_two hl hi
    exact ⟨vs, w, ha, hw⟩
  · obtain ⟨vs, ha, hl, _⟩ := rd s
    rw [enumD_len]
    exact ⟨vs, ha, by omega⟩
  · obtain ⟨vs, ha, hl, s1⟩ := rd s
    rw [enumD_len] at hi
    obtain ⟨d, w, hd, hw⟩ := get_two hl hi
    obtain ⟨p, x, rfl, hp, rfl, y⟩ := y
    have := y vs ha
    rw [hw] at this
    cases this
    refine ⟨.tup [.int (i : Nat), d], ?_, SatH.newPair ?_ hp⟩
    · rw [enumD_get, hd]; simp
    · exact (SatH.pick (zip_get hd hw) s1).int
theorem zipD_get : ∀ {xs ys : List D} {i : Nat} {x y : D}, xs[i]? = some x → ys[i]? = some y → (zipD xs ys)[i]? = some (.tup [x, y])
  | [], ys, i, x, y, h1, h2 => by simp at h1
  | _ :: _, [], i, x, y, h1, h2 => by simp at h2
  | a :: xs, b :: ys, 0, x, y, h1, h2 => by
    simp at h1 h2
    subst h1 h2; rfl
  | a :: xs, b :: ys, i + 1, x, y, h1, h2 => by
    rw [zipD, List.getElem?_cons_succ]
    exact zipD_get (by simpa using h1) (by simpa using h2)
theorem zipD_len : ∀ {xs ys : List D}, (zipD xs ys).length = min xs.length ys.length
  | [], ys => by cases ys <;> simp [zipD]
  | _ :: _, [] => by simp [zipD]
  | a :: xs, b :: ys => by simp [zipD, zipD_len (xs := xs) (ys := ys)]
theorem wk_zip {o o2 : O} {a b : Addr} {xs ys : List D} (e : o.frz = .lst xs) (e2 : o2.frz = .lst ys) : Wk T B (Itz T.K a b) (zipD xs ys) [(o.shal, .ref a), (o2.shal, .ref b)] := by
  have f1 : o.shal.frz = .lst xs := by rw [shal_frz, e]
  have f2 : o2.shal.frz = .lst ys := by rw [shal_frz, e2]
  have rd : ∀ {H : Hp} {l : List It1}, Sat T B H ((o.shal, .ref a) :: (o2.shal, .ref b) :: l) → ∃ vs ws, SqL T.K H a vs ∧ SqL T.K H b ws ∧ xs.length = vs.length ∧ ys.length = ws.length ∧
      SatH T B H [] ((ys.map O.d).zip ws ++ ((xs.map O.d).zip vs ++ (o.shal, .ref a) :: (o2.shal, .ref b) :: l)) := fun {H l} s => by
    obtain ⟨p, vs, ep, ha, hl, s1⟩ := Sat.kidsL s f1
    cases ep
    rw [shal2] at s1
    have s2 : SatH T B H [] ((o2.shal, .ref b) :: ((xs.map O.d).zip vs ++ (o.shal, .ref a) :: l)) := s1.perm (by
      have p1 : ((xs.map O.d).zip vs ++ (o.shal, V.ref a) :: (o2.shal, V.ref b) :: l).Perm ((xs.map O.d).zip vs ++ (o2.shal, V.ref b) :: (o.shal, V.ref a) :: l) := (List.Perm.swap _ _ _).append_left _
      exact p1.trans List.perm_middle)
    obtain ⟨q, ws, eq, hb, hl2, s3⟩ := Sat.kidsL s2 f2
    cases eq
    rw [shal2] at s3
    refine ⟨vs, ws, ha, hb, hl, hl2, s3.perm (List.Perm.append_left _ ?_)⟩
    have p1 : ((o2.shal, V.ref b) :: ((xs.map O.d).zip vs ++ (o.shal, V.ref a) :: l)).Perm ((xs.map O.d).zip vs ++ (o2.shal, V.ref b) :: (o.shal, V.ref a) :: l) := List.perm_middle.symm
    exact p1.trans ((List.Perm.swap _ _ _).append_left _)
  refine ⟨fun i H l hi s => ?_, fun H l s => ?_, fun i H v H' l hi s y => ?_⟩
  · obtain ⟨vs, ws, ha, hb, hl, hl2, _⟩ := rd s
    rw [zipD_len] at hi
    obtain ⟨d, w, _, hw⟩ := get_two hl (i := i) (by omega)
    obtain ⟨d', w', _, hw'⟩ := get_two hl2 (i := i) (by omega)
    exact ⟨vs, ws, w, w', ha, hb, hw, hw'⟩
  · obtain ⟨vs, ws, ha, hb, hl, hl2, _⟩ := rd s
    rw [zipD_len]
    exact ⟨vs, ws, ha, hb, by omega⟩
  · obtain ⟨vs, ws, ha, hb, hl, hl2, s1⟩ := rd s
    rw [zipD_len] at hi
    obtain ⟨d, w, hd, hw⟩ := get_two hl (i := i) (by omega)
    obtain ⟨d', w', hd', hw'⟩ := get_two hl2 (i := i) (by omega)
    obtain ⟨p, x, z, rfl, hp, rfl, y1, y2⟩ := y
    have h1 := y1 vs ha
    rw [hw] at h1
    cases h1
    have h2 := y2 ws hb
    rw [hw'] at h2
    cases h2
    refine ⟨.tup [d, d'], zipD_get hd hd', SatH.newPair ?_ hp⟩
    have s2 := SatH.pick (zip_get hd' hw') s1
    have s3 : SatH T B H [] ((xs.map O.d).zip vs ++ ((O.d d', w') :: (o.shal, .ref a) :: (o2.shal, .ref b) :: l)) := s2.perm List.perm_middle.symm
    exact SatH.pick (zip_get hd hw) s3
theorem wk_zipT {o o2 : O} {a b : Addr} {xs ys : List D} (e : o.frz = .tup xs) (e2 : o2.frz = .tup ys) : Wk T B (RZ.ItzT T.K a b) (zipD xs ys) [(o.shal, .ref a), (o2.shal, .ref b)] := by
  have f1 : o.shal.frz = .tup xs := by rw [shal_frz, e]
  have f2 : o2.shal.frz = .tup ys := by rw [shal_frz, e2]
  have rd : ∀ {H : Hp} {l : List It1}, Sat T B H ((o.shal, .ref a) :: (o2.shal, .ref b) :: l) → ∃ vs ws, SqT T.K H a vs ∧ SqT T.K H b ws ∧ xs.length = vs.length ∧ ys.length = ws.length ∧
      SatH T B H [] ((ys.map O.d).zip ws ++ ((xs.map O.d).zip vs ++ (o.shal, .ref a) :: (o2.shal, .ref b) :: l)) := fun {H l} s => by
    obtain ⟨p, vs, ep, ha, hl, s1⟩ := Sat.kidsT s f1
    cases ep
    rw [shal2] at s1
    have s2 : SatH T B H [] ((o2.shal, .ref b) :: ((xs.map O.d).zip vs ++ (o.shal, .ref a) :: l)) := s1.perm (by
      have p1 : ((xs.map O.d).zip vs ++ (o.shal, V.ref a) :: (o2.shal, V.ref b) :: l).Perm ((xs.map O.d).zip vs ++ (o2.shal, V.ref b) :: (o.shal, V.ref a) :: l) := (List.Perm.swap _ _ _).append_left _
      exact p1.trans List.perm_middle)
    obtain ⟨q, ws, eq, hb, hl2, s3⟩ := Sat.kidsT s2 f2
    cases eq
    rw [shal2] at s3
    refine ⟨vs, ws, ha, hb, hl, hl2, s3.perm (List.Perm.append_left _ ?_)⟩
    have p1 : ((o2.shal, V.ref b) :: ((xs.map O.d).zip vs ++ (o.shal, V.ref a) :: l)).Perm ((xs.map O.d).zip vs ++ (o2.shal, V.ref b) :: (o.shal, V.ref a) :: l) := List.perm_middle.symm
    exact p1.trans ((List.Perm.swap _ _ _).append_left _)
  refine ⟨fun i H l hi s => ?_, fun H l s => ?_, fun i H v H' l hi s y => ?_⟩
  · obtain ⟨vs, ws, ha, hb, hl, hl2, _⟩ := rd s
    rw [zipD_len] at hi
    obtain ⟨d, w, _, hw⟩ := get_two hl (i := i) (by omega)
    obtain ⟨d', w', _, hw'⟩ := get_two hl2 (i := i) (by omega)
    exact ⟨vs, ws, w, w', ha, hb, hw, hw'⟩
  · obtain ⟨vs, ws, ha, hb, hl, hl2, _⟩ := rd s
    rw [zipD_len]
    exact ⟨vs, ws, ha, hb, by omega⟩
  · obtain ⟨vs, ws, ha, hb, hl, hl2, s1⟩ := rd s
    rw [zipD_len] at hi
    obtain ⟨d, w, hd, hw⟩ := get_two hl (i := i) (by omega)
    obtain ⟨d', w', hd', hw'⟩ := get_two hl2 (i := i) (by omega)
    obtain ⟨p, x, z, rfl, hp, rfl, y1, y2⟩ := y
    have h1 := y1 vs ha
    rw [hw] at h1
    cases h1
    have h2 := y2 ws hb
    rw [hw'] at h2
    cases h2
    refine ⟨.tup [d, d'], zipD_get hd hd', SatH.newPair ?_ hp⟩
    have s2 := SatH.pick (zip_get hd' hw') s1
    have s3 : SatH T B H [] ((xs.map O.d).zip vs ++ ((O.d d', w') :: (o.shal, .ref a) :: (o2.shal, .ref b) :: l)) := s2.perm List.perm_middle.symm
    exact SatH.pick (zip_get hd hw) s3
/-! ### iterables -/
/-- a list, a tuple, a text, by its value -/
theorem pi_any {tg e : Expr} {te : TE} (he : PE X e te) : PI X tg e (fun σ H R => te σ H fun x H1 => (∃ a xs, x = .ref a ∧ SqL X.K H1 a xs ∧ R (Itl X.K a) H1) ∨ (∃ a xs, x = .ref a ∧ SqT X.K H1 a xs ∧ R (Itt X.K a) H1) ∨ ∃ z, x = .str z ∧ R (Its z) H1) := by
  refine ⟨fun pins s σ H R I h => ?_⟩
  refine thn (he.run pins s σ H _ I h) fun v s1 ⟨x, H1, I1, r1, q1⟩ => ?_
  rcases q1 with ⟨a, xs, rfl, hq, q⟩ | ⟨a, xs, rfl, hq, q⟩ | ⟨z, rfl, q⟩
  · cases r1
    obtain ⟨its, rv, p, hz⟩ := I1.list hq
    exact wpAny_pyIter_list p.isList (pi_one (tk := s1.toks) I1 _ (turn_list a _) ⟨_, Heap.get?_push_size _ rfl, rfl, rfl⟩ q)
  · cases r1
    obtain ⟨its, rv, p, hz⟩ := I1.tuple hq
    exact wpAny_pyIter_tuple (show s1.heap.IsTuple a its.toArray from p) (pi_one (tk := s1.toks) I1 _ (turn_tuple a _) ⟨_, Heap.get?_push_size _ rfl, rfl, rfl⟩ q)
  · obtain ⟨t, rfl⟩ := r1
    cases ha : z.cps.all (· < 128)
    · exact wpAny_pyIter_wide ha (pi_one (tk := s1.toks) I1 _ (turn_str _ z t "str_iterator" (.inr rfl)) ⟨_, Heap.get?_push_size _ rfl, rfl, rfl⟩ q)
    · exact wpAny_pyIter_ascii ha (pi_one (tk := s1.toks) I1 _ (turn_str _ z t "str_ascii_iterator" (.inl rfl)) ⟨_, Heap.get?_push_size _ rfl, rfl, rfl⟩ q)
/-- how long it may be -/
def Bnd (K : PySem.W.Frag) (H : Hp) (n : Nat) : Prop := (∃ a xs, SqL K H a xs ∧ n ≤ xs.length) ∨ (∃ a xs, SqT K H a xs ∧ n ≤ xs.length) ∨ n ≤ sizeLine
theorem Bnd.le {pins : List (Addr × Obj)} {σ : L2.St} {H : Hp} {s : Shared} {n : Nat} (I : Inv X pins σ H s) (b : Bnd X.K H n) : n ≤ sizeLine := by
  rcases b with ⟨a, xs, h, hn⟩ | ⟨a, xs, h, hn⟩ | hn
  · obtain ⟨_, _, _, z⟩ := I.list h
    exact Nat.le_trans hn z
  · obtain ⟨_, _, _, z⟩ := I.tuple h
    exact Nat.le_trans hn z
  · exact hn
theorem pi_bnd {tg e : Expr} {wi : TI} (h : PI X tg e wi) : PI X tg e (fun σ H R => wi σ H fun J H' => ∃ n, Bnd X.K H' n ∧ (n ≤ sizeLine → R J H')) :=
  ⟨fun pins s σ H R I q => thn (h.run pins s σ H _ I q) fun v s1 h1 => thn h1 fun itv s2 ⟨it, fp, tn, J, H', e, I', T, st, f, n, b, k⟩ => ⟨it, fp, tn, J, H', e, I', T, st, f, k (b.le I')⟩⟩
/-- the reading of an iterable -/
def tI (T : Tab) (B : Base) (Φ : Phi) (W : WX) (ie : IE) : TI := fun σ H R => ∃ ρ l, At T B H ρ σ l ∧ RG T B W σ l (evI Φ ie ρ) fun p ρ' => ∀ vs J H', p.2.1.length = vs.length → ArgVs σ p.1 vs → At T B H' ρ' σ (p.2.1.zip vs ++ l) → Wk T B J p.2.2 (p.2.1.zip vs) → p.2.2.length ≤ sizeLine → R J H'
theorem i_of {tg e : Expr} {se : SE} (hK : X.K = T.K) (he : PE X e (tA T B Φ W se)) : PI X tg e (tI T B Φ W (.of se)) := by
  refine ⟨fun pins s σ H R I ⟨ρ, l, at_, h⟩ => (pi_bnd (pi_any he)).run pins s σ H R I ⟨ρ, l, at_, ?_⟩⟩
  rw [evI] at h
  refine h.bind.mono fun α ρ1 k v H1 a1 av => ?_
  cases ef : fetch α ρ1 with
  | bad => rw [ef] at k; exact k.elim
  | exc C p ρ' =>
    cases α with
    | val o => cases ef
    | slot i =>
      have ef : bnd (slotE ρ1 i) (fun o => Res.ok o (fetch.taken o i ρ1)) = .exc C p ρ' := ef
      cases q : slotE ρ1 i <;> rw [q] at ef <;> cases ef
  | ok o ρ2 =>
    rw [ef] at k
    have a2 := fetch_at a1 av ef
    have k : RG T B W σ l ((Res.of (walkD o.frz) ρ2).bind fun ds ρ => Res.ok ([α], [o.shal], ds) ρ) _ := k
    obtain ⟨ds, ed, k⟩ := k.bind.of
    have s2 : Sat T B H1 ((o, v) :: (envIts ρ2 σ ++ l)) := a2.sat.perm List.perm_middle
    have s3 := shal_any s2
    have a3 : At T B H1 ρ2 σ ([o.shal].zip [v] ++ l) := ⟨a2.ok, s3.perm List.perm_middle.symm, a2.pr⟩
    have k : ∀ vs J H', [o.shal].length = vs.length → ArgVs σ [α] vs → At T B H' ρ2 σ ([o.shal].zip vs ++ l) → Wk T B J ds ([o.shal].zip vs) → ds.length ≤ sizeLine → R J H' := k
    cases ea : o.frz with
    | lst xs =>
      rw [ea] at ed
      injection ed with ed; subst ed
      obtain ⟨a, vs, rfl, ha, hl, _⟩ := Sat.kidsL s2 ea
      exact .inl ⟨a, vs, rfl, by rw [hK]; exact ha, _, .inl ⟨a, vs, by rw [hK]; exact ha, Nat.le_of_eq hl⟩, by rw [hK]; exact k [.ref a] _ H1 rfl ⟨av, trivial⟩ a3 (wk_list ea)⟩
    | tup xs =>
      rw [ea] at ed
      injection ed with ed; subst ed
      obtain ⟨a, vs, rfl, ha, hl, _⟩ := Sat.kidsT s2 ea
      exact .inr (.inl ⟨a, vs, rfl, by rw [hK]; exact ha, _, .inr (.inl ⟨a, vs, by rw [hK]; exact ha, Nat.le_of_eq hl⟩), by rw [hK]; exact k [.ref a] _ H1 rfl ⟨av, trivial⟩ a3 (wk_tup ea)⟩)
    | str z =>
      have d := s2.read
      rw [ea] at ed d
      have d : v = .str z := d
      subst d
      have ed : (if z.length ≤ sizeLine then some (z.cps.toList.map fun c => D.str ⟨#[c]⟩) else none) = some ds := ed
      split at ed
      · rename_i hz
        injection ed with ed; subst ed
        exact .inr (.inr ⟨z, rfl, _, .inr (.inr hz), fun hz => k [.str z] _ H1 rfl ⟨av, trivial⟩ a3 wk_str (by simpa [Str.length] using hz)⟩)
      · cases ed
    | _ => rw [ea] at ed; cases ed
theorem held1 {σ : L2.St} {H : Hp} {ρ : Env} {l : List It1} {o : O} {v : V} (a : At T B H ρ σ ((o, v) :: l)) : At T B H ρ σ ((o.shal, v) :: l) := ⟨a.ok, (shal_any (SatH.perm a.sat List.perm_middle)).perm List.perm_middle.symm, a.pr⟩
theorem pa_one {e : Expr} {se : SE} {env : PySem.Env} (he : PE X e (tA T B Φ W se)) (hs : starEach [e] X.env = (false, eval e X.env) :: starEach [] X.env) : PA X [e] (tCons (tA T B Φ W se) tNil) := pa_cons he pa_nil hs
theorem i_enum {elts : List Expr} {kk : Nat} {tpos p pos : Pos} {e : Expr} {se : SE} (hK : X.K = T.K) (hg : Gl X "enumerate") (hm : X.mg "enumerate" = none) (he : PE X e (tA T B Φ W se)) (hs : starEach [e] X.env = [(false, eval e X.env)]) :
    PI X (.Tuple elts kk tpos) (.Call (.Name "enumerate" p) [e] [] pos) (tI T B Φ W (.enum se)) := by
  refine ⟨fun pins s σ H R I ⟨ρ, l, at_, h⟩ => (pi_bnd (pi_enum hg hm (pa_cons he pa_nil (by rw [hs]; rfl)) hs)).run pins s σ H R I ⟨ρ, l, at_, ?_⟩⟩
  rw [evI] at h
  refine h.bind.mono fun α ρ1 k v H1 a1 av => ?_
  cases ef : fetch α ρ1 with
  | bad => rw [ef] at k; exact k.elim
  | exc C p ρ' =>
    cases α with
    | val o => cases ef
    | slot i =>
      have ef : bnd (slotE ρ1 i) (fun o => Res.ok o (fetch.taken o i ρ1)) = .exc C p ρ' := ef
      cases q : slotE ρ1 i <;> rw [q] at ef <;> cases ef
  | ok o ρ2 =>
    rw [ef] at k
    have a2 := fetch_at a1 av ef
    have k : RG T B W σ l ((Res.of (lstD o.frz) ρ2).bind fun ds ρ => Res.ok ([α], [o.shal], enumD 0 ds) ρ) _ := k
    obtain ⟨ds, ed, k⟩ := k.bind.of
    have a3 : At T B H1 ρ2 σ ([o.shal].zip [v] ++ l) := held1 a2
    have k : ∀ vs J H', [o.shal].length = vs.length → ArgVs σ [α] vs → At T B H' ρ2 σ ([o.shal].zip vs ++ l) → Wk T B J (enumD 0 ds) ([o.shal].zip vs) → (enumD 0 ds).length ≤ sizeLine → R J H' := k
    cases ea : o.frz with
    | lst xs =>
      rw [ea] at ed
      injection ed with ed; subst ed
      obtain ⟨a, vs, rfl, ha, hl, _⟩ := Sat.kidsL (SatH.perm a2.sat List.perm_middle) ea
      exact ⟨a, vs, rfl, by rw [hK]; exact ha, _, .inl ⟨a, vs, by rw [hK]; exact ha, Nat.le_of_eq (enumD_len.trans hl)⟩, by rw [hK]; exact k [.ref a] _ H1 rfl ⟨av, trivial⟩ a3 (wk_enum ea)⟩
    | _ => rw [ea] at ed; cases ed
theorem evL_len : ∀ {ses : List SE} {ρ ρ' : Env} {os : List O}, evL Φ ses ρ = .ok os ρ' → os.length = ses.length
  | [], ρ, ρ', os, e => by rw [evL] at e; injection e with e; subst e; rfl
  | se :: ses, ρ, ρ', os, e => by
    rw [evL] at e
    obtain ⟨o, ρ1, _, e⟩ := Res.bind_of e
    obtain ⟨os', ρ2, e1, e⟩ := Res.bind_of e
    injection e with e
    subst e
    simp [evL_len e1]
theorem At.intAt {σ : L2.St} {H : Hp} {ρ : Env} {l m : List It1} {i : Int} {v : V} (a : At T B H ρ σ (m ++ (.d (.int i), v) :: l)) : v = .int i :=
  (SatH.perm (m := (O.d (.int i), v) :: (envIts ρ σ ++ (m ++ l))) a.sat ((List.Perm.append_left _ List.perm_middle).trans List.perm_middle)).read
theorem i_range1 {se : SE} {e tg : Expr} {p pos : Pos} (hg : Gl X "range") (hm : X.mg "range" = none) (ha : PA X [e] (tL T B Φ W [se])) (hs : starEach [e] X.env = [(false, eval e X.env)]) :
    PI X tg (.Call (.Name "range" p) [e] [] pos) (tI T B Φ W (.range [se])) := by
  refine ⟨fun pins s σ H R I ⟨ρ, l, at_, h⟩ => (pi_range1 hg hm ha hs).run pins s σ H R I ⟨ρ, l, at_, ?_⟩⟩
  rw [evI] at h
  refine h.bind.eq.mono fun os ρ1 ⟨eo, k⟩ vs H1 hl a1 => ?_
  obtain ⟨ds, ed, k⟩ := k.bind.of
  have hlo := evL_len eo
  match os, hlo, ed with
  | [.d (.int n)], _, ed =>
    have ed : (if -(2 ^ 62) ≤ n ∧ n ≤ sizeLine then some (rangeL 0 n.toNat) else none) = some ds := ed
    split at ed
    · rename_i hz
      injection ed with ed; subst ed
      match vs, hl with
      | [v], _ =>
        have ev := At.intAt (m := []) a1
        subst ev
        have k : ∀ vs J H', ([] : List O).length = vs.length → ArgVs σ [] vs → At T B H' ρ1 σ (([] : List O).zip vs ++ l) → Wk T B J (rangeL 0 n.toNat) (([] : List O).zip vs) → (rangeL 0 n.toNat).length ≤ sizeLine → R J H' := k
        have h63 := sizeLine_eq
        exact ⟨n, rfl, hz.1, by omega, k [] _ H1 rfl trivial a1.drop wk_range (by simp [rangeL]; omega)⟩
    · cases ed
  | [.d .non], _, ed => cases ed
  | [.d (.bl _)], _, ed => cases ed
  | [.d (.str _)], _, ed => cases ed
  | [.d (.tup _)], _, ed => cases ed
  | [.d (.lst _)], _, ed => cases ed
  | [.d (.dic _ _)], _, ed => cases ed
  | [.d (.obj _ _ _)], _, ed => cases ed
  | [.d (.exc _ _)], _, ed => cases ed
  | [.tup _], _, ed => cases ed
  | [.lst _], _, ed => cases ed
  | [.dic _ _], _, ed => cases ed
  | [.obj _ _ _], _, ed => cases ed
theorem range2_of {o p : O} {ds : List D} (e : rangeD [o, p] = some ds) : ∃ i j, o = .d (.int i) ∧ p = .d (.int j) ∧ (0 ≤ i ∧ i ≤ sizeLine ∧ 0 ≤ j ∧ j ≤ sizeLine) ∧ ds = rangeL i (j - i).toNat := by
  cases o with
  | d x =>
    cases x with
    | int i =>
      cases p with
      | d y =>
        cases y with
        | int j =>
          have e : (if 0 ≤ i ∧ i ≤ sizeLine ∧ 0 ≤ j ∧ j ≤ sizeLine then some (rangeL i (j - i).toNat) else none) = some ds := e
          split at e
          · rename_i hz
            injection e with e
            exact ⟨i, j, rfl, rfl, hz, e.symm⟩
          · cases e
        | _ => cases e
      | _ => cases e
    | _ => cases e
  | _ => cases e
theorem i_range2 {sa sb : SE} {e1 e2 tg : Expr} {p pos : Pos} (hg : Gl X "range") (hm : X.mg "range" = none) (ha : PA X [e1, e2] (tL T B Φ W [sa, sb])) (hs : starEach [e1, e2] X.env = [(false, eval e1 X.env), (false, eval e2 X.env)]) (hs2 : starEach [e2] X.env = [(false, eval e2 X.env)]) :
    PI X tg (.Call (.Name "range" p) [e1, e2] [] pos) (tI T B Φ W (.range [sa, sb])) := by
  refine ⟨fun pins s σ H R I ⟨ρ, l, at_, h⟩ => (pi_range2 hg hm ha hs hs2).run pins s σ H R I ⟨ρ, l, at_, ?_⟩⟩
  rw [evI] at h
  refine h.bind.eq.mono fun os ρ1 ⟨eo, k⟩ vs H1 hl a1 => ?_
  obtain ⟨ds, ed, k⟩ := k.bind.of
  have hlo := evL_len eo
  match os, hlo, ed, vs, hl with
  | [o, p], _, ed, [v, w], _ =>
    obtain ⟨i, j, rfl, rfl, hz, rfl⟩ := range2_of ed
    have ev := At.intAt (m := []) a1
    have ew := At.intAt (m := [(O.d (.int i), v)]) a1
    subst ev ew
    have k : ∀ vs J H', ([] : List O).length = vs.length → ArgVs σ [] vs → At T B H' ρ1 σ (([] : List O).zip vs ++ l) → Wk T B J (rangeL i (j - i).toNat) (([] : List O).zip vs) → (rangeL i (j - i).toNat).length ≤ sizeLine → R J H' := k
    have h63 := sizeLine_eq
    exact ⟨i, j, rfl, by omega, k [] _ H1 rfl trivial a1.drop.drop wk_range (by simp [rangeL]; omega)⟩
/-! ### targets -/
mutual
def tgSlots : Tg → List Nat
  | .nm i => [i]
  | .tp ts => tgsSlots ts
  | .fl _ _ _ => []
def tgsSlots : List Tg → List Nat
  | [] => []
  | t :: ts => tgSlots t ++ tgsSlots ts
end
/-- the same but for the slots is -/
def SameBut (is : List Nat) (σ σ' : L2.St) : Prop := σ'.length = σ.length ∧ ∀ j, j ∉ is → σ'[j]? = σ[j]?
theorem SameBut.refl {is : List Nat} {σ : L2.St} : SameBut is σ σ := ⟨rfl, fun _ _ => rfl⟩
theorem SameBut.trans {is js : List Nat} {σ σ' σ'' : L2.St} (a : SameBut is σ σ') (b : SameBut js σ' σ'') : SameBut (is ++ js) σ σ'' :=
  ⟨b.1.trans a.1, fun j hj => (b.2 j fun z => hj (List.mem_append_right _ z)).trans (a.2 j fun z => hj (List.mem_append_left _ z))⟩
def gT (T : Tab) (B : Base) (t : Tg) : TG := fun v σ H Q => ∃ d ρ ρ' l, At T B H ρ σ ((.d d, v) :: l) ∧ asgT t d ρ = some ρ' ∧ ∀ σ', SameBut (tgSlots t) σ σ' → At T B H ρ' σ' l → Q σ' H
def gTs (T : Tab) (B : Base) (ts : List Tg) : TGs := fun vs σ H Q => ∃ ds ρ ρ' l, ds.length = vs.length ∧ At T B H ρ σ ((ds.map O.d).zip vs ++ l) ∧ asgT.go ts ds ρ = some ρ' ∧ ∀ σ', SameBut (tgsSlots ts) σ σ' → At T B H ρ' σ' l → Q σ' H
theorem _root_.L2.PG.pv {X : Cx} {tg : Expr} {t t' : TG} (h : PG X tg t) (i : ∀ pins s v σ H Q, Inv X pins σ H s → t' v σ H Q → t v σ H Q) : PG X tg t' := ⟨fun pins s σ H v u Q I r q => h.run pins s σ H v u Q I r (i pins s v σ H Q I q)⟩
theorem _root_.L2.PGs.pv {X : Cx} {tg : List Expr} {t t' : TGs} (h : PGs X tg t) (i : ∀ vs σ H Q, t' vs σ H Q → t vs σ H Q) : PGs X tg t' := ⟨fun pins s σ H v u Q I r q => h.run pins s σ H v u Q I r (i v σ H Q q)⟩
theorem s_tgN {i : Nat} {x : Str} {pos : Pos} (hN : X.N.Nodup) (hi : X.N[i]? = some x) (hx : Loc X.env.scope x) (hf : X.fn x = true ∨ X.env.scope.names.lookup x = some .local) (hp : ∀ p ∈ B.pr, p.1 ≠ i) : PG X (.Name x pos) (gT T B (.nm i)) :=
  (pg_name hN hi hx hf).pv fun pins s v σ H Q I ⟨d, ρ, ρ', l, a, e, q⟩ => by
    have e : some (ρ.set i (some (.d d))) = some ρ' := by rw [asgT] at e; exact e
    injection e with e
    subst e
    have hl : i < ρ.length := by
      rw [a.ok.len, I.len]
      exact (List.getElem?_eq_some_iff.mp hi).1
    exact q _ ⟨by simp, fun j hj => List.getElem?_set_ne (fun z => hj (by rw [tgSlots, z]; exact List.mem_cons_self))⟩ (a.store hl hp)
theorem s_tgs0 : PGs X [] (gTs T B []) := pgs_nil.pv fun vs σ H Q ⟨ds, ρ, ρ', l, hl, a, e, q⟩ => by
  cases ds with
  | nil =>
    have e : some ρ = some ρ' := by rw [asgT.go] at e; exact e
    injection e with e
    subst e
    cases vs with
    | nil => exact ⟨rfl, q σ .refl a⟩
    | cons _ _ => simp at hl
  | cons d ds => rw [asgT.go] at e <;> first | cases e | simp
theorem s_tgs1 {e : Expr} {es : List Expr} {t : Tg} {ts : List Tg} (h1 : PG X e (gT T B t)) (h2 : PGs X es (gTs T B ts)) (hs : (assignEach (e :: es) X.env).map (·.2) = assign e X.env :: (assignEach es X.env).map (·.2)) : PGs X (e :: es) (gTs T B (t :: ts)) :=
  (pgs_cons h1 h2 hs).pv fun vs σ H Q ⟨ds, ρ, ρ', l, hl, a, e, q⟩ => by
    cases ds with
    | nil => rw [asgT.go] at e <;> first | cases e | simp
    | cons d ds =>
      cases vs with
      | nil => simp at hl
      | cons v vs =>
        rw [asgT.go] at e
        cases e1 : asgT t d ρ with
        | none => rw [e1] at e; cases e
        | some ρ1 =>
          rw [e1] at e
          exact ⟨v, vs, rfl, d, ρ, ρ1, (ds.map O.d).zip vs ++ l, a, e1, fun σ' sm a' => ⟨ds, ρ1, ρ', l, by simpa using hl, a', e, fun σ'' sm' a'' => q σ'' (by rw [tgsSlots]; exact sm.trans sm') a''⟩⟩
theorem asg_len : ∀ {ts : List Tg} {ds : List D} {ρ ρ' : Env}, asgT.go ts ds ρ = some ρ' → ts.length = ds.length
  | [], [], _, _, _ => rfl
  | [], _ :: _, _, _, e => by rw [asgT.go] at e <;> first | cases e | simp
  | _ :: _, [], _, _, e => by rw [asgT.go] at e <;> first | cases e | simp
  | t :: ts, d :: ds, ρ, ρ', e => by
    rw [asgT.go] at e
    cases e1 : asgT t d ρ with
    | none => rw [e1] at e; cases e
    | some ρ1 =>
      rw [e1] at e
      simp [asg_len e]
theorem s_tgT {es : List Expr} {k : Nat} {ts : List Tg} {pos : Pos} (hK : X.K = T.K) (hc : X.calm = true) (h : PGs X es (gTs T B ts)) (hn : (assignEach es X.env).length = ts.length) (hst : (assignEach es X.env).findIdx? (·.1) = none) : PG X (.Tuple es k pos) (gT T B (.tp ts)) :=
  (pg_tup (n := ts.length) hc h hn hst).pv fun pins s v σ H Q I ⟨d, ρ, ρ', l, a, e, q⟩ => by
    cases d with
    | tup xs =>
      rw [asgT] at e
      have s1 : Sat T B H ((.d (.tup xs), v) :: (envIts ρ σ ++ l)) := a.sat.perm List.perm_middle
      obtain ⟨b, vs, rfl, hb, hl, s2⟩ := Sat.kidsT s1 (xs := xs) rfl
      refine ⟨b, vs, rfl, by rw [hK]; exact hb, by rw [← hl, asg_len e], xs, ρ, ρ', l, hl, ⟨a.ok, ?_, a.pr⟩, e, fun σ' sm a' => q σ' (by rw [tgSlots]; exact sm) a'⟩
      have s3 : SatH T B H [] ((O.shal (.d (.tup xs)), V.ref b) :: ((xs.map O.d).zip vs ++ (envIts ρ σ ++ l))) := s2.perm List.perm_middle
      exact s3.drop1.perm swap_its
    | _ => rw [asgT] at e <;> first | cases e | simp
end
end PV
/-! PV18: statements -/
namespace PV
open PySem PySem.Spec PyProof.Rows L2
/-- a statement's end: what is wanted of it -/
def RS (T : Tab) (B : Base) (W : WX) (D : Ends) (l : List It1) (r : Res Fl) : Prop := match r with
  | .ok .nx ρ => ∀ σ H, At T B H ρ σ l → D.nx σ H
  | .ok (.rt o) ρ => ∀ σ v H, At T B H ρ σ ((o, v) :: l) → D.rt v H
  | .ok .bk ρ => ∀ σ H, At T B H ρ σ l → D.bk σ H
  | .ok .ct ρ => ∀ σ H, At T B H ρ σ l → D.ct σ H
  | .exc C p ρ => ∀ σ d H its, At T B H ρ σ (its ++ l) → ExcIt T H C p d its → W (.ref (T.cls C)) d σ H
  | .bad => False
def tS (T : Tab) (B : Base) (Φ : Phi) (W : WX) (s : SS) : TS := fun D σ H => ∃ ρ l, At T B H ρ σ l ∧ RS T B W D l (evS Φ s ρ)
def tSs (T : Tab) (B : Base) (Φ : Phi) (W : WX) (ss : List SS) : TS := fun D σ H => ∃ ρ l, At T B H ρ σ l ∧ RS T B W D l (evSs Φ ss ρ)
section
variable {T : Tab} {B : Base} {Φ : Phi} {W : WX} {X : Cx} {D : Ends} {l m : List It1} {σ : L2.St} {H : Hp} {ρ : Env}
theorem RS.rg {α : Type} {r : Res α} {f : α → Env → Res Fl} (h : RS T B W D l (r.bind f)) : RG T B W σ l r fun a ρ => RS T B W D l (f a ρ) := by
  cases r with
  | ok a ρ => exact h
  | exc C p ρ => exact fun d H its a e => h σ d H its a e
  | bad => exact h
theorem RS.bnd {α : Type} {o : Option α} {f : α → Res Fl} (h : RS T B W D l (bnd o f)) : ∃ a, o = some a ∧ RS T B W D l (f a) := by
  cases o with
  | none => exact h.elim
  | some a => exact ⟨a, rfl, h⟩
theorem _root_.L2.PS.pv {st : Stmt} {t t' : TS} (h : PS X st t) (i : ∀ D σ H, t' D σ H → t D σ H) : PS X st t' := ⟨fun pins s σ H D I q => h.run pins s σ H D I (i D σ H q)⟩
theorem _root_.L2.PSs.pv {st : List Stmt} {t t' : TS} (h : PSs X st t) (i : ∀ D σ H, t' D σ H → t D σ H) : PSs X st t' := ⟨fun pins s σ H D I q => h.run pins s σ H D I (i D σ H q)⟩
section
variable {e c : Expr} {se sc : SE} {pos : Pos} {st : Stmt} {rest a b : List Stmt} {ss : SS} {sr sa sb : List SS}
theorem st_nil : PSs X [] (tSs T B Φ W []) := pss_nil.pv fun D σ H ⟨ρ, l, at_, h⟩ => by
  rw [evSs] at h
  exact h σ H at_
theorem st_cons (h1 : PS X st (tS T B Φ W ss)) (h2 : PSs X rest (tSs T B Φ W sr)) : PSs X (st :: rest) (tSs T B Φ W (ss :: sr)) :=
  (pss_cons h1 h2).pv fun D σ H ⟨ρ, l, at_, h⟩ => by
    rw [evSs] at h
    refine ⟨ρ, l, at_, ?_⟩
    cases e : evS Φ ss ρ with
    | bad => rw [e] at h; exact h
    | exc C p ρ' => rw [e] at h; exact h
    | ok f ρ' =>
      rw [e] at h
      cases f with
      | nx => exact fun σ' H' a' => ⟨ρ', l, a', h⟩
      | rt o => exact h
      | bk => exact h
      | ct => exact h
theorem st_kill {is : List Nat} (h : PSs X rest (tSs T B Φ W sr)) : PSs X rest (tSs T B Φ W (.kill is :: sr)) := h.pv fun D σ H ⟨ρ, l, at_, h⟩ => by
  rw [evSs, evS] at h
  exact ⟨killE is ρ, l, at_.kill, h⟩
theorem st_pass : PS X (.Pass pos) (tS T B Φ W .pass) := ps_pass.pv fun D σ H ⟨ρ, l, at_, h⟩ => by
  rw [evS] at h
  exact h σ H at_
theorem st_brk : PS X (.Break pos) (tS T B Φ W .brk) := ps_break.pv fun D σ H ⟨ρ, l, at_, h⟩ => by
  rw [evS] at h
  exact h σ H at_
theorem st_cont : PS X (.Continue pos) (tS T B Φ W .cont) := ps_continue.pv fun D σ H ⟨ρ, l, at_, h⟩ => by
  rw [evS] at h
  exact h σ H at_
theorem st_exp (he : PE X e (tE T B Φ W se)) (hs : swapsWith e none pos.line X.env = pure false) : PS X (.Expr e pos) (tS T B Φ W (.exp se)) :=
  (ps_expr he hs).pv fun D σ H ⟨ρ, l, at_, h⟩ => by
    rw [evS] at h
    exact ⟨ρ, l, at_, RG.rp (h.rg.mono fun o ρ1 k v H1 a1 => k σ H1 a1.drop)⟩
theorem st_ret (he : PE X e (tE T B Φ W se)) : PS X (.Return (some e) pos) (tS T B Φ W (.ret se)) :=
  (ps_ret he).pv fun D σ H ⟨ρ, l, at_, h⟩ => by
    rw [evS] at h
    exact ⟨ρ, l, at_, RG.rp (h.rg.mono fun o ρ1 k v H1 a1 => k σ v H1 a1)⟩
theorem st_retN : PS X (.Return none pos) (tS T B Φ W .retN) := ps_retN.pv fun D σ H ⟨ρ, l, at_, h⟩ => by
  rw [evS] at h
  exact h σ .non H ⟨at_.ok, at_.sat.non.perm List.perm_middle.symm, at_.pr⟩
theorem st_if (hc : PT X c (tT T B Φ W sc)) (ha : PSs X a (tSs T B Φ W sa)) (hb : PSs X b (tSs T B Φ W sb)) : PS X (.If c a b pos) (tS T B Φ W (.ite sc sa sb)) :=
  (ps_if hc ha hb).pv fun D σ H ⟨ρ, l, at_, h⟩ => by
    rw [evS] at h
    refine ⟨ρ, l, at_, h.rg.mono fun t ρ1 k H1 a1 => ?_⟩
    cases t with
    | true => rw [if_pos rfl]; exact ⟨ρ1, l, a1, k⟩
    | false => rw [if_neg Bool.false_ne_true]; exact ⟨ρ1, l, a1, k⟩
/-! ### stores -/
/-- a target takes what is owned -/
def gO (T : Tab) (B : Base) (t : Tg) : TG := fun v σ H Q => ∃ o ρ ρ' l, At T B H ρ σ ((o, v) :: l) ∧ asgO t o ρ = some ρ' ∧ ∀ σ' H', At T B H' ρ' σ' l → Q σ' H'
def gOs (T : Tab) (B : Base) (ts : List Tg) : TGs := fun vs σ H Q => ∃ os ρ ρ' l, os.length = vs.length ∧ At T B H ρ σ (os.zip vs ++ l) ∧ asgO.go ts os ρ = some ρ' ∧ ∀ σ' H', At T B H' ρ' σ' l → Q σ' H'
theorem o_tgN {i : Nat} {x : Str} (hN : X.N.Nodup) (hi : X.N[i]? = some x) (hx : Loc X.env.scope x) (hf : X.fn x = true ∨ X.env.scope.names.lookup x = some .local) (hp : ∀ p ∈ B.pr, p.1 ≠ i) : PG X (.Name x pos) (gO T B (.nm i)) :=
  (pg_name hN hi hx hf).pv fun pins s v σ H Q I ⟨o, ρ, ρ', l, a, e, q⟩ => by
    have e : some (ρ.set i (some o)) = some ρ' := by rw [asgO] at e; exact e
    injection e with e
    subst e
    have hl : i < ρ.length := by
      rw [a.ok.len, I.len]
      exact (List.getElem?_eq_some_iff.mp hi).1
    exact q _ _ (a.store hl hp)
theorem st_asg {tg : Expr} {t : Tg} (he : PE X e (tE T B Φ W se)) (hg : PG X tg (gO T B t)) (hs : swapsWithSole [tg] e pos.line X.env = pure false) (hw : swappedStores [tg] e X.env = pure none)
    (h1 : (assignEach [tg] X.env).map (·.2) = [assign tg X.env]) : PS X (.Assign [tg] e pos) (tS T B Φ W (.asg t se)) :=
  (ps_asg he hg hs hw h1).pv fun D σ H ⟨ρ, l, at_, h⟩ => by
    rw [evS] at h
    refine ⟨ρ, l, at_, RG.rp (h.rg.mono fun o ρ1 k v H1 a1 => ?_)⟩
    obtain ⟨ρ2, e2, k⟩ := k.bnd
    exact ⟨o, ρ1, ρ2, l, a1, e2, fun σ' H' a' => k σ' H' a'⟩
/-! ### for -/
def prOf : List Arg → List V → List (Nat × V)
  | .slot i :: as, v :: vs => (i, v) :: prOf as vs
  | .val _ :: as, _ :: vs => prOf as vs
  | _, _ => []
theorem prOf_ok {σ : L2.St} : ∀ {as : List Arg} {vs : List V}, ArgVs σ as vs → ∀ p ∈ prOf as vs, σ[p.1]? = some (some p.2)
  | [], [], _, p, hp => by cases hp
  | .slot i :: as, v :: vs, h, p, hp => by
    rcases List.mem_cons.mp hp with rfl | hp
    · exact h.1
    · exact prOf_ok h.2 p hp
  | .val o :: as, v :: vs, h, p, hp => prOf_ok (as := as) (vs := vs) h.2 p hp
  | [], _ :: _, h, p, hp => h.elim
  | .slot _ :: _, [], h, p, hp => h.elim
  | .val _ :: _, [], h, p, hp => h.elim
theorem prOf_back {σ : L2.St} : ∀ {as : List Arg} {vs : List V}, as.length = vs.length → (∀ p ∈ prOf as vs, σ[p.1]? = some (some p.2)) → ArgVs σ as vs
  | [], [], _, h => trivial
  | .slot i :: as, v :: vs, hl, h => ⟨h (i, v) List.mem_cons_self, prOf_back (by simpa using hl) fun p hp => h p (List.mem_cons_of_mem _ hp)⟩
  | .val o :: as, v :: vs, hl, h => ⟨trivial, prOf_back (by simpa using hl) fun p hp => h p hp⟩
  | [], _ :: _, hl, h => by simp at hl
  | .slot _ :: _, [], hl, h => by simp at hl
  | .val _ :: _, [], hl, h => by simp at hl
theorem prOf_mem : ∀ {as : List Arg} {vs : List V} {p : Nat × V}, p ∈ prOf as vs → Arg.slot p.1 ∈ as
  | .slot i :: as, v :: vs, p, hp => by
    rcases List.mem_cons.mp hp with rfl | hp
    · exact List.mem_cons_self
    · exact List.mem_cons_of_mem _ (prOf_mem hp)
  | .val o :: as, v :: vs, p, hp => List.mem_cons_of_mem _ (prOf_mem (as := as) (vs := vs) hp)
  | [], _, p, hp => by cases hp
  | .slot _ :: _, [], p, hp => by cases hp
  | .val _ :: _, [], p, hp => by cases hp
/-- the base with more slots kept -/
def Base.keep (B : Base) (pr : List (Nat × V)) : Base := { B with pr := pr ++ B.pr }
theorem sat_keep {pr : List (Nat × V)} {hs : List Addr} : SatH T (B.keep pr) H hs l ↔ SatH T B H hs l :=
  ⟨fun s => ⟨s.lk, s.old, s.oth, s.io, s.reps⟩, fun s => ⟨s.lk, s.old, s.oth, s.io, s.reps⟩⟩
theorem At.toKeep {pr : List (Nat × V)} (a : At T B H ρ σ l) (h : ∀ p ∈ pr, σ[p.1]? = some (some p.2)) : At T (B.keep pr) H ρ σ l :=
  ⟨a.ok, sat_keep.mpr a.sat, fun p hp => (List.mem_append.mp hp).elim (h p) (a.pr p)⟩
theorem At.ofKeep {pr : List (Nat × V)} (a : At T (B.keep pr) H ρ σ l) : At T B H ρ σ l := ⟨a.ok, sat_keep.mp a.sat, fun p hp => a.pr p (List.mem_append_right _ hp)⟩
theorem At.prKeep {pr : List (Nat × V)} (a : At T (B.keep pr) H ρ σ l) : ∀ p ∈ pr, σ[p.1]? = some (some p.2) := fun p hp => a.pr p (List.mem_append_left _ hp)
theorem st_for {tg iter : Expr} {body : List Stmt} {t : Tg} {ie : IE} (hl : List Nat) (hslots : ∀ ρ p ρ', evI Φ ie ρ = .ok p ρ' → ∀ i, Arg.slot i ∈ p.1 → i ∈ hl) (hlen : ∀ ρ p ρ', evI Φ ie ρ = .ok p ρ' → p.1.length = p.2.1.length)
    (hp : PassesOwn (model X.prog X.w) X.A X.env X.xe) (hc : X.calm = true) (hi : PI X tg iter (tI T B Φ W ie)) (hg : ∀ B' : Base, (∀ p ∈ B'.pr, p ∈ B.pr ∨ p.1 ∈ hl) → PG X tg (gT T B' t))
    (hb : ∀ B' : Base, (∀ p ∈ B'.pr, p ∈ B.pr ∨ p.1 ∈ hl) → PSs X body (tSs T B' Φ W sb)) (hs : ∀ x, foldedSetIterable iter X.env x = pure x) : PS X (.For tg iter body [] pos) (tS T B Φ W (.for t ie sb)) := by
  have hg' : PG X tg (fun v σ H Q => ∃ B' : Base, (∀ p ∈ B'.pr, p ∈ B.pr ∨ p.1 ∈ hl) ∧ gT T B' t v σ H Q) := ⟨fun pins s σ H v u Q I r ⟨B', c, h⟩ => (hg B' c).run pins s σ H v u Q I r h⟩
  have hb' : PSs X body (fun D σ H => ∃ B' : Base, (∀ p ∈ B'.pr, p ∈ B.pr ∨ p.1 ∈ hl) ∧ tSs T B' Φ W sb D σ H) := ⟨fun pins s σ H D I ⟨B', c, h⟩ => (hb B' c).run pins s σ H D I h⟩
  refine (ps_for hp hc hi hg' hb' hs).pv fun D σ H ⟨ρ, l, at_, h⟩ => ?_
  rw [evS] at h
  refine ⟨ρ, l, at_, h.rg.eq.mono fun q ρ1 ⟨eq_, k⟩ vs J H1 hvl av a1 wk _ => ?_⟩
  obtain ⟨as, os, ds⟩ := q
  have hal : as.length = os.length := hlen _ _ _ eq_
  have hsl := hslots _ _ _ eq_
  simp only at k hvl av a1 wk hsl
  have cond : ∀ p ∈ (B.keep (prOf as vs)).pr, p ∈ B.pr ∨ p.1 ∈ hl := fun p hp => (List.mem_append.mp hp).elim (fun z => .inr (hsl _ (prOf_mem z))) .inl
  have back : ∀ {H : Hp} {ρ : Env} {σ : L2.St} {m : List It1}, At T (B.keep (prOf as vs)) H ρ σ (m ++ (os.zip vs ++ l)) → At T B H (backL as os ρ) σ (m ++ l) := fun {H ρ σ m} a =>
    backL_at (as := as) (os := os) (vs := vs) hvl ((a.ofKeep).perm swap_its) (prOf_back (by omega) a.prKeep)
  have w : Walk J ds.length (fun H => ∃ l', Sat T B H (os.zip vs ++ l')) (fun i H v H' => ∀ l', Sat T B H (os.zip vs ++ l') → ∃ d, ds[i]? = some d ∧ Sat T B H' ((.d d, v) :: (os.zip vs ++ l'))) :=
    ⟨fun i H hi ⟨l', s⟩ => wk.goes i H l' hi s, fun H ⟨l', s⟩ => wk.stops H l' s, fun i H v H' hi _ y l' s => wk.yields i H v H' l' hi s y⟩
  refine for_it (g := fun v σ H Q => ∃ B' : Base, (∀ p ∈ B'.pr, p ∈ B.pr ∨ p.1 ∈ hl) ∧ gT T B' t v σ H Q) (tb := fun D σ H => ∃ B' : Base, (∀ p ∈ B'.pr, p ∈ B.pr ∨ p.1 ∈ hl) ∧ tSs T B' Φ W sb D σ H) (D := D) w (fun i σ H => ∃ ρi, At T (B.keep (prOf as vs)) H ρi σ (os.zip vs ++ l) ∧ RS T B W D l ((forL (fun x ρ => bnd (asgT t x ρ) fun ρ => evSs Φ sb ρ) (ds.drop i) ρi).mapE (backL as os))) ⟨ρ1, a1.toKeep (prOf_ok av), by rw [List.drop_zero]; exact k⟩ ?_ ?_ ?_
  · rintro i σ2 H2 _ ⟨ρi, a2, _⟩
    exact ⟨_, (sat_keep.mp a2.sat).perm swap_its⟩
  · rintro i x σ2 H2 H3 hi ⟨ρi, a2, k2⟩ y
    obtain ⟨d, hd, s3⟩ := y _ ((sat_keep.mp a2.sat).perm swap_its)
    have ed : ds.drop i = d :: ds.drop (i + 1) := by
      obtain ⟨hj, hv⟩ := List.getElem?_eq_some_iff.mp hd
      rw [← hv]
      exact List.drop_eq_getElem_cons hj
    rw [ed, forL] at k2
    have a3 : At T (B.keep (prOf as vs)) H3 ρi σ2 ((.d d, x) :: (os.zip vs ++ l)) := ⟨a2.ok, sat_keep.mpr (s3.perm (by
      have p1 : ((O.d d, x) :: (os.zip vs ++ (envIts ρi σ2 ++ l))).Perm ((O.d d, x) :: (envIts ρi σ2 ++ (os.zip vs ++ l))) := swap_its.cons _
      exact p1.trans List.perm_middle.symm)), a2.pr⟩
    cases ea : asgT t d ρi with
    | none => rw [ea] at k2; exact k2.elim
    | some ρ2 =>
      rw [ea] at k2
      refine ⟨_, cond, d, ρi, ρ2, _, a3, ea, fun σ' _ a4 => ⟨_, cond, ρ2, _, a4, ?_⟩⟩
      have k2 : RS T B W D l (((evSs Φ sb ρ2).bind fun e ρ => e.turn (forL (fun x ρ => bnd (asgT t x ρ) fun ρ => evSs Φ sb ρ) (ds.drop (i + 1)) ρ) ρ).mapE (backL as os)) := k2
      cases er : evSs Φ sb ρ2 with
      | bad => rw [er] at k2; exact k2
      | exc C p ρ3 =>
        rw [er] at k2
        intro σ4 d4 H4 its a5 e5
        exact k2 σ4 d4 H4 its (back a5) e5
      | ok f ρ3 =>
        rw [er] at k2
        cases f with
        | nx => exact fun σ4 H4 a5 => ⟨ρ3, a5, k2⟩
        | ct => exact fun σ4 H4 a5 => ⟨ρ3, a5, k2⟩
        | rt o => exact fun σ4 v H4 a5 => k2 σ4 v H4 (back (m := [(o, v)]) a5)
        | bk => exact fun σ4 H4 a5 => k2 σ4 H4 (back (m := []) a5)
  · rintro σ2 H2 ⟨ρi, a2, k2⟩
    rw [List.drop_of_length_le (Nat.le_refl _), forL] at k2
    exact k2 σ2 H2 (back (m := []) a2)
/-! ### while -/
theorem st_whl {c : Expr} {body : List Stmt} {sc : SE} (hp : PassesOwn (model X.prog X.w) X.A X.env X.xe) (hc : PT X c (tT T B Φ W sc)) (hb : PSs X body (tSs T B Φ W sb)) : PS X (.While c body [] pos) (tS T B Φ W (.whl sc sb)) := by
  refine (ps_while hp hc hb).pv fun D σ H ⟨ρ, l, at_, h⟩ => ?_
  rw [evS] at h
  generalize hf : (fun ρ => (evC Φ sc ρ).bind fun t ρ => tst t ((evSs Φ sb ρ).bind fun f ρ => Res.ok f.whl ρ) (Res.ok (some Fl.nx) ρ)) = f at h
  have h0 : ∃ n r, whlN f n ρ = some r ∧ RS T B W D l r := by
    unfold whlL at h
    split at h
    · rename_i hx
      exact ⟨_, _, (Classical.choose_spec hx).choose_spec, h⟩
    · exact h.elim
  obtain ⟨n, r, e, hr⟩ := h0
  refine ⟨fun m σ H => ∃ ρi r, At T B H ρi σ l ∧ whlN f m ρi = some r ∧ RS T B W D l r, ⟨n, ρ, r, at_, e, hr⟩, ?_⟩
  rintro m σ2 H2 ⟨ρi, r, a2, e2, hr⟩
  cases m with
  | zero => cases e2
  | succ k =>
    unfold whlN at e2
    refine ⟨ρi, l, a2, ?_⟩
    have ef : f ρi = (evC Φ sc ρi).bind fun t ρ => tst t ((evSs Φ sb ρ).bind fun f ρ => Res.ok f.whl ρ) (Res.ok (some Fl.nx) ρ) := by rw [← hf]
    rw [ef] at e2
    cases ec : evC Φ sc ρi with
    | bad =>
      rw [ec] at e2
      injection e2 with e2
      subst e2
      exact hr
    | exc C p ρ1 =>
      rw [ec] at e2
      injection e2 with e2
      subst e2
      exact fun d H its a e => hr σ2 d H its a e
    | ok b ρ1 =>
      rw [ec] at e2
      intro H3 a3
      cases b with
      | false =>
        injection e2 with e2
        subst e2
        rw [if_neg Bool.false_ne_true]
        exact hr σ2 H3 a3
      | true =>
        rw [if_pos rfl]
        have e2 : (match ((evSs Φ sb ρ1).bind fun f ρ => Res.ok f.whl ρ) with
          | .ok none ρ => whlN f k ρ
          | .ok (some e) ρ => some (.ok e ρ)
          | .exc C p ρ => some (.exc C p ρ)
          | .bad => some .bad) = some r := e2
        refine ⟨fun σ H => ∃ ρi r, At T B H ρi σ l ∧ whlN f k ρi = some r ∧ RS T B W D l r, fun σ' H' z => ⟨k, Nat.lt_succ_self k, z⟩, ρ1, l, a3, ?_⟩
        cases es : evSs Φ sb ρ1 with
        | bad =>
          rw [es] at e2
          injection e2 with e2
          subst e2
          exact hr
        | exc C p ρ2 =>
          rw [es] at e2
          injection e2 with e2
          subst e2
          exact hr
        | ok g ρ2 =>
          rw [es] at e2
          cases g with
          | nx => exact fun σ4 H4 a4 => ⟨ρ2, r, a4, e2, hr⟩
          | ct => exact fun σ4 H4 a4 => ⟨ρ2, r, a4, e2, hr⟩
          | bk =>
            injection e2 with e2
            subst e2
            exact hr
          | rt o =>
            injection e2 with e2
            subst e2
            exact hr
/-! ### two or three names at once -/
theorem st_par2 {i j : Nat} {x y : Str} {e1 e2 : Expr} {s1 s2 : SE} {px py pt : Pos} {kt k2 : Nat} {pt2 : Pos} (hc : X.calm = true) (hN : X.N.Nodup) (hi : X.N[i]? = some x) (hj : X.N[j]? = some y) (hij : i ≠ j)
    (hx : X.env.scope.names.lookup x = some .local) (hy : X.env.scope.names.lookup y = some .local) (hpi : ∀ p ∈ B.pr, p.1 ≠ i) (hpj : ∀ p ∈ B.pr, p.1 ≠ j) (ha : PA X [e1, e2] (tL T B Φ W [s1, s2]))
    (hw : swappedStores [.Tuple [.Name x px, .Name y py] kt pt] (.Tuple [e1, e2] k2 pt2) X.env = pure (some [x, y]))
    (hs : swapsWithSole [.Tuple [.Name x px, .Name y py] kt pt] (.Tuple [e1, e2] k2 pt2) pos.line X.env = pure false) :
    PS X (.Assign [.Tuple [.Name x px, .Name y py] kt pt] (.Tuple [e1, e2] k2 pt2) pos) (tS T B Φ W (.asg (.tp [.nm i, .nm j]) (.tup [s1, s2]))) := by
  refine ⟨fun pins s σ H D I ⟨ρ, l, at_, h⟩ => (ps_par hc hN hi hj hij hx hy ha hw hs).run pins s σ H D I ⟨ρ, l, at_, ?_⟩⟩
  rw [evS, ev] at h
  have h := h.rg (σ := σ)
  have h := h.bind
  refine h.eq.mono fun os ρ1 ⟨eo, k⟩ vs H1 hl a1 => ?_
  have hlo := evL_len eo
  match os, hlo, vs, hl with
  | [o, p], _, [v, w], _ =>
    refine ⟨v, w, rfl, ?_⟩
    have k : RS T B W D l (bnd (asgO (.tp [.nm i, .nm j]) (mkT [o, p]) ρ1) fun ρ => .ok .nx ρ) := k
    have ea : asgO (.tp [.nm i, .nm j]) (mkT [o, p]) ρ1 = some ((ρ1.set i (some o)).set j (some p)) := by
      have e1 : ∀ a b : O, asgO.go [.nm i, .nm j] [a, b] ρ1 = some ((ρ1.set i (some a)).set j (some b)) := fun a b => by
        rw [asgO.go, asgO]
        show asgO.go [.nm j] [b] (ρ1.set i (some a)) = _
        rw [asgO.go, asgO]
        show asgO.go [] [] _ = _
        rw [asgO.go]
      have e2 : ∀ a b : PV.D, asgO.goD [.nm i, .nm j] [a, b] ρ1 = some ((ρ1.set i (some (.d a))).set j (some (.d b))) := fun a b => by
        rw [asgO.goD, asgT]
        show asgO.goD [.nm j] [b] (ρ1.set i (some (.d a))) = _
        rw [asgO.goD, asgT]
        show asgO.goD [] [] _ = _
        rw [asgO.goD]
      cases o with
      | d x1 =>
        cases p with
        | d x2 =>
          show asgO (.tp [.nm i, .nm j]) (.d (.tup [x1, x2])) ρ1 = _
          rw [asgO]
          exact e2 x1 x2
        | tup xs => show asgO (.tp [.nm i, .nm j]) (.tup [.d x1, .tup xs]) ρ1 = _; rw [asgO]; exact e1 _ _
        | lst xs => show asgO (.tp [.nm i, .nm j]) (.tup [.d x1, .lst xs]) ρ1 = _; rw [asgO]; exact e1 _ _
        | dic ks xs => show asgO (.tp [.nm i, .nm j]) (.tup [.d x1, .dic ks xs]) ρ1 = _; rw [asgO]; exact e1 _ _
        | obj C ns xs => show asgO (.tp [.nm i, .nm j]) (.tup [.d x1, .obj C ns xs]) ρ1 = _; rw [asgO]; exact e1 _ _
      | tup xs => show asgO (.tp [.nm i, .nm j]) (.tup [.tup xs, p]) ρ1 = _; rw [asgO]; exact e1 _ _
      | lst xs => show asgO (.tp [.nm i, .nm j]) (.tup [.lst xs, p]) ρ1 = _; rw [asgO]; exact e1 _ _
      | dic ks xs => show asgO (.tp [.nm i, .nm j]) (.tup [.dic ks xs, p]) ρ1 = _; rw [asgO]; exact e1 _ _
      | obj C ns xs => show asgO (.tp [.nm i, .nm j]) (.tup [.obj C ns xs, p]) ρ1 = _; rw [asgO]; exact e1 _ _
    rw [ea] at k
    have k : ∀ σ H, At T B H ((ρ1.set i (some o)).set j (some p)) σ l → D.nx σ H := k
    have hli : i < ρ1.length := by rw [a1.ok.len, I.len]; exact (List.getElem?_eq_some_iff.mp hi).1
    have hlj : j < ρ1.length := by rw [a1.ok.len, I.len]; exact (List.getElem?_eq_some_iff.mp hj).1
    have a2 : At T B H1 (ρ1.set i (some o)) (σ.set i (some v)) ((p, w) :: l) := At.store (l := (p, w) :: l) a1 hli hpi
    exact k _ H1 (a2.store (by simpa using hlj) hpj)
/-! ### targets that take apart -/
theorem o_tgs0 : PGs X [] (gOs T B []) := pgs_nil.pv fun vs σ H Q ⟨os, ρ, ρ', l, hl, a, e, q⟩ => by
  cases os with
  | nil =>
    have e : some ρ = some ρ' := by rw [asgO.go] at e; exact e
    injection e with e
    subst e
    cases vs with
    | nil => exact ⟨rfl, q σ H a⟩
    | cons _ _ => simp at hl
  | cons d ds => rw [asgO.go] at e <;> first | cases e | simp
theorem o_tgs1 {e : Expr} {es : List Expr} {t : Tg} {ts : List Tg} (h1 : PG X e (gO T B t)) (h2 : PGs X es (gOs T B ts)) (hs : (assignEach (e :: es) X.env).map (·.2) = assign e X.env :: (assignEach es X.env).map (·.2)) : PGs X (e :: es) (gOs T B (t :: ts)) :=
  (pgs_cons h1 h2 hs).pv fun vs σ H Q ⟨ds, ρ, ρ', l, hl, a, e, q⟩ => by
    cases ds with
    | nil => rw [asgO.go] at e <;> first | cases e | simp
    | cons d ds =>
      cases vs with
      | nil => simp at hl
      | cons v vs =>
        rw [asgO.go] at e
        cases e1 : asgO t d ρ with
        | none => rw [e1] at e; cases e
        | some ρ1 =>
          rw [e1] at e
          exact ⟨v, vs, rfl, d, ρ, ρ1, ds.zip vs ++ l, a, e1, fun σ' H' a' => ⟨ds, ρ1, ρ', l, by simpa using hl, a', e, q⟩⟩
theorem asgO_len : ∀ {ts : List Tg} {ds : List O} {ρ ρ' : Env}, asgO.go ts ds ρ = some ρ' → ts.length = ds.length
  | [], [], _, _, _ => rfl
  | [], _ :: _, _, _, e => by rw [asgO.go] at e <;> first | cases e | simp
  | _ :: _, [], _, _, e => by rw [asgO.go] at e <;> first | cases e | simp
  | t :: ts, d :: ds, ρ, ρ', e => by
    rw [asgO.go] at e
    cases e1 : asgO t d ρ with
    | none => rw [e1] at e; cases e
    | some ρ1 =>
      rw [e1] at e
      simp [asgO_len e]
theorem goD_go : ∀ {ts : List Tg} {ds : List PV.D} {ρ : Env}, asgO.goD ts ds ρ = asgT.go ts ds ρ
  | [], [], ρ => by rw [asgO.goD, asgT.go]
  | [], _ :: _, ρ => by rw [asgO.goD, asgT.go] <;> simp
  | _ :: _, [], ρ => by rw [asgO.goD, asgT.go] <;> simp
  | t :: ts, d :: ds, ρ => by
    rw [asgO.goD, asgT.go]
    cases asgT t d ρ with
    | none => rfl
    | some ρ1 => exact goD_go
theorem o_tgT {es : List Expr} {k : Nat} {ts : List Tg} (hK : X.K = T.K) (hc : X.calm = true) (h : PGs X es (gOs T B ts)) (h' : PGs X es (gTs T B ts)) (hn : (assignEach es X.env).length = ts.length) (hst : (assignEach es X.env).findIdx? (·.1) = none) : PG X (.Tuple es k pos) (gO T B (.tp ts)) := by
  have hh : PGs X es (fun vs σ H Q => gOs T B ts vs σ H Q ∨ gTs T B ts vs σ H Q) := ⟨fun pins s σ H vs us Q I r z => z.elim (h.run pins s σ H vs us Q I r) (h'.run pins s σ H vs us Q I r)⟩
  refine (pg_tup (n := ts.length) hc hh hn hst).pv fun pins s v σ H Q I ⟨o, ρ, ρ', l, a, e, q⟩ => ?_
  cases o with
  | d x =>
    cases x with
    | tup xs =>
      have e : asgT.go ts xs ρ = some ρ' := by rw [asgO, goD_go] at e; exact e
      have s1 : Sat T B H ((.d (.tup xs), v) :: (envIts ρ σ ++ l)) := a.sat.perm List.perm_middle
      obtain ⟨b, vs, rfl, hb, hl, s2⟩ := Sat.kidsT s1 (xs := xs) rfl
      refine ⟨b, vs, rfl, by rw [hK]; exact hb, by rw [← hl, asg_len e], .inr ⟨xs, ρ, ρ', l, hl, ⟨a.ok, ?_, a.pr⟩, e, fun σ' _ a' => q σ' H a'⟩⟩
      have s3 : SatH T B H [] ((O.shal (.d (.tup xs)), V.ref b) :: ((xs.map O.d).zip vs ++ (envIts ρ σ ++ l))) := s2.perm List.perm_middle
      exact s3.drop1.perm swap_its
    | _ => rw [asgO] at e <;> first | cases e | simp
  | tup xs =>
    have e : asgO.go ts xs ρ = some ρ' := by rw [asgO] at e; exact e
    have s1 : Sat T B H ((.tup xs, v) :: (envIts ρ σ ++ l)) := a.sat.perm List.perm_middle
    obtain ⟨b, vs, rfl, hb, hl, s2⟩ := SatH.openT s1
    exact ⟨b, vs, rfl, SqT.of hb, by rw [← hl, asgO_len e], .inl ⟨xs, ρ, ρ', l, hl, ⟨a.ok, s2.perm swap_its, a.pr⟩, e, q⟩⟩
  | _ => rw [asgO] at e <;> first | cases e | simp
end
end
end PV
/-! PV19: stores into lists and dicts -/
namespace PV
open PySem PySem.Spec PyProof.Rows L2
section
variable {T : Tab} {B : Base} {Φ : Phi} {W : WX} {X : Cx} {H H' : Hp} {hs : List Addr} {l m : List It1} {o y : O} {v w : V} {a : Addr}
/-- o[k] = v by values -/
def rSet (T : Tab) : TSet := fun x y w H Q => ∃ (B : Base) (o' : O) (ok v : O) (l : List It1) (hs : List Addr) (o1 : O), SatH T B H hs ((o', x) :: (ok, y) :: (v, w) :: l) ∧ setO o' ok.frz v = some o1 ∧
  ∀ H', (∀ b ∈ hs, H' b = H b) → SatH T B H' hs ((o1, x) :: l) → Q H'
theorem zip_set {os : List O} {vs : List V} {j : Nat} {n : O} {w : V} (hl : os.length = vs.length) (hj : j < os.length) (s : SatH T B H hs (os.zip vs ++ (n, w) :: l)) : SatH T B H hs ((os.set j n).zip (vs.set j w) ++ l) := by
  have h1 : os[j]? = some os[j] := List.getElem?_eq_getElem hj
  have h2 : vs[j]? = some (vs[j]'(by omega)) := List.getElem?_eq_getElem (by omega)
  have e : (os.zip vs)[j]? = some (os[j], vs[j]'(by omega)) := by rw [List.getElem?_zip_eq_some]; exact ⟨h1, h2⟩
  have p1 := perm_erase e
  have hz : j < (os.zip vs).length := by simp; omega
  have e2 : (os.set j n).zip (vs.set j w) = (os.zip vs).set j (n, w) := by
    apply List.ext_getElem?
    intro i
    by_cases hi : i = j
    · subst hi
      rw [List.getElem?_set_self hz, List.getElem?_zip_eq_some]
      exact ⟨List.getElem?_set_self hj, List.getElem?_set_self (by omega)⟩
    · rw [List.getElem?_set_ne (Ne.symm hi)]
      simp only [List.zip, List.getElem?_zipWith, List.getElem?_set_ne (Ne.symm hi)]
  have p2 := perm_erase (l := (os.zip vs).set j (n, w)) (j := j) (List.getElem?_set_self hz)
  rw [List.eraseIdx_set_eq] at p2
  rw [e2]
  have s2 : SatH T B H hs ((os[j], vs[j]'(by omega)) :: ((os.zip vs).eraseIdx j ++ (n, w) :: l)) := s.perm (p1.append_right _)
  refine s2.drop1.perm (List.perm_middle.trans ?_)
  exact p2.symm.append_right l
theorem map_put {κ : Type} [DecidableEq κ] {kk : κ} {w : V} : ∀ {js : List κ} {ws : List V} {n : Nat}, js.Nodup → js[n]? = some kk → ((js.zip ws).map fun kv => if kv.1 = kk then (kv.1, w) else kv) = js.zip (ws.set n w)
  | [], ws, n, nd, e => by simp at e
  | j :: js, [], n, nd, e => by simp
  | j :: js, x :: ws, 0, nd, e => by
    simp at e
    subst e
    rw [List.zip_cons_cons, List.map_cons, if_pos rfl, List.set_cons_zero, List.zip_cons_cons]
    congr 1
    have hn : j ∉ js := (List.nodup_cons.mp nd).1
    have : ∀ kv ∈ js.zip ws, (if kv.1 = j then (kv.1, w) else kv) = kv := fun kv hkv => by
      have hm : kv.1 ∈ js := (List.of_mem_zip (show (kv.1, kv.2) ∈ js.zip ws from hkv)).1
      exact if_neg fun z => hn (by rw [← z]; exact hm)
    rw [List.map_congr_left this, List.map_id']
  | j :: js, x :: ws, n + 1, nd, e => by
    have e : js[n]? = some kk := by simpa using e
    have hn : ¬ j = kk := fun z => (List.nodup_cons.mp nd).1 (z ▸ List.mem_of_getElem? e)
    rw [List.zip_cons_cons, List.map_cons, if_neg hn, List.set_cons_succ, List.zip_cons_cons, map_put (List.nodup_cons.mp nd).2 e]
theorem putK_at {κ : Type} [DecidableEq κ] {kk : κ} {w x : V} {js : List κ} {ws : List V} {n : Nat} (nd : js.Nodup) (e : js[n]? = some kk) (hv : valV (js.zip ws) kk = some x) : putK (js.zip ws) kk w = js.zip (ws.set n w) := by
  unfold putK
  rw [valV_any, hv]
  show (if true = true then _ else _) = _
  rw [if_pos rfl, map_put nd e]
theorem pos_key {k : D} {kk : Key} (ek : keyOf k = some kk) : ∀ {ks : List D} {js : List Key} {n : Nat}, keysOf ks = some js → posD k ks = some n → js[n]? = some kk
  | [], js, n, e, p => by cases p
  | j :: ks, js, n, e, p => by
    unfold keysOf at e
    cases e1 : keyOf j with
    | none => rw [e1] at e; cases e
    | some jj =>
      cases e2 : keysOf ks with
      | none => rw [e1, e2] at e; cases e
      | some r' =>
        rw [e1, e2] at e
        injection e with e
        subst e
        unfold posD at p
        by_cases hc : jj = kk
        · subst hc
          rw [if_pos ⟨by rw [e1, ek], by rw [tkey_no e1, tkey_no ek]⟩] at p
          injection p with p
          subst p; rfl
        · rw [if_neg (fun z => hc (by have := z.1; rw [e1, ek] at this; exact Option.some.inj this))] at p
          obtain ⟨n', p1, p2⟩ := Option.map_eq_some_iff.mp p
          subst p2
          rw [List.getElem?_cons_succ]
          exact pos_key ek e2 p1
theorem pos_tkey {k : D} {kk : List Key} (ek : tkeyOf k = some kk) : ∀ {ks : List D} {js : List (List Key)} {n : Nat}, tkeysOf ks = some js → posD k ks = some n → js[n]? = some kk
  | [], js, n, e, p => by cases p
  | j :: ks, js, n, e, p => by
    unfold tkeysOf at e
    cases e1 : tkeyOf j with
    | none => rw [e1] at e; cases e
    | some jj =>
      cases e2 : tkeysOf ks with
      | none => rw [e1, e2] at e; cases e
      | some r' =>
        rw [e1, e2] at e
        injection e with e
        subst e
        unfold posD at p
        by_cases hc : jj = kk
        · subst hc
          rw [if_pos ⟨by rw [key_no e1, key_no ek], by rw [e1, ek]⟩] at p
          injection p with p
          subst p; rfl
        · rw [if_neg (fun z => hc (by have := z.2; rw [e1, ek] at this; exact Option.some.inj this))] at p
          obtain ⟨n', p1, p2⟩ := Option.map_eq_some_iff.mp p
          subst p2
          rw [List.getElem?_cons_succ]
          exact pos_tkey ek e2 p1
theorem pos_none {k : D} {kk : Key} (ek : keyOf k = some kk) : ∀ {ks : List D} {js : List Key} {ws : List V}, keysOf ks = some js → posD k ks = none → valV (js.zip ws) kk = none
  | [], js, ws, e, p => by
    have e : some ([] : List Key) = some js := e
    cases e; rfl
  | j :: ks, js, ws, e, p => by
    unfold keysOf at e
    cases e1 : keyOf j with
    | none => rw [e1] at e; cases e
    | some jj =>
      cases e2 : keysOf ks with
      | none => rw [e1, e2] at e; cases e
      | some r' =>
        rw [e1, e2] at e
        injection e with e
        subst e
        unfold posD at p
        by_cases hc : jj = kk
        · subst hc
          rw [if_pos ⟨by rw [e1, ek], by rw [tkey_no e1, tkey_no ek]⟩] at p
          cases p
        · rw [if_neg (fun z => hc (by have := z.1; rw [e1, ek] at this; exact Option.some.inj this))] at p
          cases ws with
          | nil => rfl
          | cons x ws =>
            rw [List.zip_cons_cons, valV_neg hc]
            exact pos_none ek e2 (Option.map_eq_none_iff.mp p)
theorem pos_tnone {k : D} {kk : List Key} (ek : tkeyOf k = some kk) : ∀ {ks : List D} {js : List (List Key)} {ws : List V}, tkeysOf ks = some js → posD k ks = none → valV (js.zip ws) kk = none
  | [], js, ws, e, p => by
    have e : some ([] : List (List Key)) = some js := e
    cases e; rfl
  | j :: ks, js, ws, e, p => by
    unfold tkeysOf at e
    cases e1 : tkeyOf j with
    | none => rw [e1] at e; cases e
    | some jj =>
      cases e2 : tkeysOf ks with
      | none => rw [e1, e2] at e; cases e
      | some r' =>
        rw [e1, e2] at e
        injection e with e
        subst e
        unfold posD at p
        by_cases hc : jj = kk
        · subst hc
          rw [if_pos ⟨by rw [key_no e1, key_no ek], by rw [e1, ek]⟩] at p
          cases p
        · rw [if_neg (fun z => hc (by have := z.2; rw [e1, ek] at this; exact Option.some.inj this))] at p
          cases ws with
          | nil => rfl
          | cons x ws =>
            rw [List.zip_cons_cons, valV_neg hc]
            exact pos_tnone ek e2 (Option.map_eq_none_iff.mp p)
theorem keysOf_snoc {k : D} {kk : Key} (ek : keyOf k = some kk) : ∀ {ks : List D} {js : List Key}, keysOf ks = some js → keysOf (ks ++ [k]) = some (js ++ [kk])
  | [], js, e => by
    have e : some ([] : List Key) = some js := e
    cases e
    show (match keyOf k, keysOf [] with | some k, some r => some (k :: r) | _, _ => none) = _
    rw [ek]; rfl
  | j :: ks, js, e => by
    unfold keysOf at e
    cases e1 : keyOf j with
    | none => rw [e1] at e; cases e
    | some jj =>
      cases e2 : keysOf ks with
      | none => rw [e1, e2] at e; cases e
      | some r' =>
        rw [e1, e2] at e
        injection e with e
        subst e
        show (match keyOf j, keysOf (ks ++ [k]) with | some k, some r => some (k :: r) | _, _ => none) = _
        rw [e1, keysOf_snoc ek e2]; rfl
theorem tkeysOf_snoc {k : D} {kk : List Key} (ek : tkeyOf k = some kk) : ∀ {ks : List D} {js : List (List Key)}, tkeysOf ks = some js → tkeysOf (ks ++ [k]) = some (js ++ [kk])
  | [], js, e => by
    have e : some ([] : List (List Key)) = some js := e
    cases e
    show (match tkeyOf k, tkeysOf [] with | some k, some r => some (k :: r) | _, _ => none) = _
    rw [ek]; rfl
  | j :: ks, js, e => by
    unfold tkeysOf at e
    cases e1 : tkeyOf j with
    | none => rw [e1] at e; cases e
    | some jj =>
      cases e2 : tkeysOf ks with
      | none => rw [e1, e2] at e; cases e
      | some r' =>
        rw [e1, e2] at e
        injection e with e
        subst e
        show (match tkeyOf j, tkeysOf (ks ++ [k]) with | some k, some r => some (k :: r) | _, _ => none) = _
        rw [e1, tkeysOf_snoc ek e2]; rfl
theorem SatH.drop2 {p q : It1} (s : SatH T B H hs (p :: q :: l)) : SatH T B H hs (p :: l) := (SatH.drop1 (o := q.1) (v := q.2) s.swap)
theorem set_pv (hu : X.A.units + 1 < cLine) : PSet X (rSet T) := by
  intro pins s σ H x y w ov iv u Q I ro ri rv h
  obtain ⟨B, o', ok, v, l, hs, o1, sa, e, q⟩ := h
  have dk : Dr T (fun _ => False) (vw B.Z H) ok.frz y := sa.read2
  have s1 : SatH T B H hs ((o', x) :: (v, w) :: l) := sa.drop2
  cases o' with
  | lst zs =>
    cases ek : ok.frz with
    | int i =>
      rw [ek] at e dk
      have dk : y = .int i := dk
      subst dk
      have e : (ixN zs.length i).map (fun j => O.lst (zs.set j v)) = some o1 := e
      obtain ⟨j, e1, e2⟩ := Option.map_eq_some_iff.mp e
      subst e2
      obtain ⟨b, vs, rfl, hb, hl, s2⟩ := s1.openL
      obtain ⟨_, hj, _, _⟩ := ixN_seq e1
      have s3 := zip_set hl hj s2
      obtain ⟨g1, g2⟩ : (∀ c ∈ hs, upd H b (.lst (vs.set j w)) c = H c) ∧ SatH T B (upd H b (.lst (vs.set j w))) hs ((.lst (zs.set j v), .ref b) :: l) :=
        ⟨fun c hc => upd_ne (s2.nin c hc), (s3.write (lst_not hb).1 (lst_not hb).2).closeL upd_same (by simp [hl])⟩
      exact set_list pins s σ H _ _ _ ov iv u Q I ro ri rv ⟨b, vs, i, j, rfl, rfl, hb, by rw [← hl]; exact e1, q _ g1 g2⟩
    | _ => rw [ek] at e; cases e
  | dic ks zs =>
    have e : (if (kindOk ok.frz ks && decide (ks.length < sizeLine)) = true then some (O.dic (putD ok.frz v ks zs).1 (putD ok.frz v ks zs).2) else none) = some o1 := e
    by_cases hc : (kindOk ok.frz ks && decide (ks.length < sizeLine)) = true
    · rw [if_pos hc] at e
      injection e with e
      subst e
      rw [Bool.and_eq_true, decide_eq_true_eq] at hc
      obtain ⟨hk, hz⟩ := hc
      obtain ⟨b, vs, rfl, hb, hl, s2⟩ := s1.openD
      cases (show ov = Value.ref b from ro)
      have up : ∀ {Hc : Hp} {ob : HO}, (∀ c, c ≠ b → Hc c = H c) → upd Hc b ob = upd H b ob := fun {Hc ob} h => by
        funext c
        by_cases z : c = b
        · subst z; rw [upd_same, upd_same]
        · rw [upd_ne z, upd_ne z, h c z]
      have nt : (∀ xs, H b ≠ some (.tup xs)) ∧ ∀ ob u, H b ≠ some (.frz ob u) := by
        rcases hb with ⟨_, _, h, _⟩ | ⟨_, _, h, _⟩
        · exact ⟨(fun _ z => by rw [h] at z; cases z), (fun _ _ z => by rw [h] at z; cases z)⟩
        · exact ⟨(fun _ z => by rw [h] at z; cases z), (fun _ _ z => by rw [h] at z; cases z)⟩
      have goK : ∀ {kk : Key} {js : List Key} {Hc : Hp}, keyOf ok.frz = some kk → (∀ c, c ≠ b → Hc c = H c) → keysOf ks = some js → js.length = vs.length → Hc b = some (.dK (js.zip vs)) → Inv X pins σ Hc s →
          wpAny (model X.prog X.w) X.A (setItem (.ref b) iv u) (fun _ s' => ∃ H', Inv X pins σ H' s' ∧ Q H') X.xe s := by
        intro kk js Hc ek hHc q1 q3 hb' I'
        have ey := key_val ek dk
        subst ey
        have hlen : (js.zip vs).length < sizeLine := by rw [List.length_zip, q3, Nat.min_self, ← q3, keysOf_len q1]; exact hz
        refine d_setItem hu I' (DPut.k hb' hlen) ri rv fun s' I2 => ⟨_, I2, ?_⟩
        rw [up hHc]
        have nd : js.Nodup := by
          obtain ⟨_, _, vs', rel, o, es, ep, h1, h2, h3, h4, h5, h6⟩ := dk_of I'.hok hb'
          have := rel.keys
          rw [← this, List.map_fst_zip (by omega)] at h6
          exact h6
        cases ep : posD ok.frz ks with
        | some n =>
          simp only [putD, ep] at q
          have hj := pos_key ek q1 ep
          have hv := pos_k ek q1 q3 ep
          obtain ⟨hn, _⟩ := List.getElem?_eq_some_iff.mp hj
          rw [List.getElem?_eq_getElem (show n < vs.length by omega)] at hv
          rw [putK_at nd hj hv]
          refine q _ (fun c hc => upd_ne (s2.nin c hc)) ?_
          have s3 := zip_set hl (show n < zs.length by omega) s2
          exact (s3.write nt.1 nt.2).closeD (.inl ⟨js, q1, upd_same, by simp [q3]⟩) (by simp [hl])
        | none =>
          simp only [putD, ep] at q
          rw [putK_new w (pos_none ek q1 ep)]
          refine q _ (fun c hc => upd_ne (s2.nin c hc)) ?_
          have s3 : SatH T B H (b :: hs) ((zs ++ [v]).zip (vs ++ [w]) ++ l) := by
            rw [List.zip_append hl, List.append_assoc]; exact s2
          exact (s3.write nt.1 nt.2).closeD (.inl ⟨js ++ [kk], keysOf_snoc ek q1, by rw [List.zip_append q3]; exact upd_same, by simp [q3]⟩) (by simp [hl])
      have goT : ∀ {kk : List Key} {js : List (List Key)} {Hc : Hp}, tkeyOf ok.frz = some kk → (∀ c, c ≠ b → Hc c = H c) → tkeysOf ks = some js → js.length = vs.length → Hc b = some (.dT (js.zip vs)) → Inv X pins σ Hc s →
          wpAny (model X.prog X.w) X.A (setItem (.ref b) iv u) (fun _ s' => ∃ H', Inv X pins σ H' s' ∧ Q H') X.xe s := by
        intro kk js Hc ek hHc q1 q3 hb' I'
        obtain ⟨t, rfl, et⟩ := tkey_val ek sa dk
        have tb : t ≠ b := fun z => nt.1 _ (z ▸ et)
        have hlen : (js.zip vs).length < sizeLine := by rw [List.length_zip, q3, Nat.min_self, ← q3, tkeysOf_len q1]; exact hz
        refine d_setItem hu I' (DPut.t hb' (by rw [hHc t tb]; exact et) hlen) ri rv fun s' I2 => ⟨_, I2, ?_⟩
        rw [up hHc]
        have nd : js.Nodup := by
          obtain ⟨_, _, vs', rel, o, es, ep, h1, h2, h3, h4, h5, h6⟩ := dt_of I'.hok hb'
          have kk : ∀ {l : List (List Key × V)} {m : List (List Key × Addr × Value)}, KT Hc l m → l.map (·.1) = m.map (·.1) := by
            intro l m r
            induction r with
            | nil => rfl
            | cons h t ih => rw [List.map_cons, List.map_cons, ih, h.1]
          rw [← kk rel, List.map_fst_zip (by omega)] at h6
          exact h6
        cases ep : posD ok.frz ks with
        | some n =>
          simp only [putD, ep] at q
          have hj := pos_tkey ek q1 ep
          have hv := pos_t ek q1 q3 ep
          obtain ⟨hn, _⟩ := List.getElem?_eq_some_iff.mp hj
          rw [List.getElem?_eq_getElem (show n < vs.length by omega)] at hv
          rw [putK_at nd hj hv]
          refine q _ (fun c hc => upd_ne (s2.nin c hc)) ?_
          have s3 := zip_set hl (show n < zs.length by omega) s2
          exact (s3.write nt.1 nt.2).closeD (.inr ⟨js, q1, upd_same, by simp [q3]⟩) (by simp [hl])
        | none =>
          simp only [putD, ep] at q
          rw [putK_new w (pos_tnone ek q1 ep)]
          refine q _ (fun c hc => upd_ne (s2.nin c hc)) ?_
          have s3 : SatH T B H (b :: hs) ((zs ++ [v]).zip (vs ++ [w]) ++ l) := by
            rw [List.zip_append hl, List.append_assoc]; exact s2
          exact (s3.write nt.1 nt.2).closeD (.inr ⟨js ++ [kk], tkeysOf_snoc ek q1, by rw [List.zip_append q3]; exact upd_same, by simp [q3]⟩) (by simp [hl])
      unfold kindOk at hk
      rw [Bool.or_eq_true, Bool.and_eq_true, Bool.and_eq_true] at hk
      rcases hk with ⟨hk, ha⟩ | ⟨hk, ha⟩
      · obtain ⟨kk, ek⟩ := Option.isSome_iff_exists.mp hk
        rcases hb with ⟨js, q1, q2, q3⟩ | ⟨js, q1, q2, q3⟩
        · exact goK ek (fun _ _ => rfl) q1 q3 q2 I
        · cases ks with
          | nil =>
            have q1 : some ([] : List (List Key)) = some js := q1
            cases q1
            cases vs with
            | nil => exact goK (js := []) ek (fun c hc => upd_ne hc) rfl rfl upd_same (Inv.toK I q2)
            | cons _ _ => simp at q3
          | cons j ks =>
            have h1 := tkeys_all q1 j List.mem_cons_self
            have h2 := List.all_eq_true.mp ha j List.mem_cons_self
            obtain ⟨jj, ej⟩ := Option.isSome_iff_exists.mp h2
            rw [tkey_no ej] at h1; cases h1
      · obtain ⟨kk, ek⟩ := Option.isSome_iff_exists.mp hk
        rcases hb with ⟨js, q1, q2, q3⟩ | ⟨js, q1, q2, q3⟩
        · cases ks with
          | nil =>
            have q1 : some ([] : List Key) = some js := q1
            cases q1
            cases vs with
            | nil => exact goT (js := []) ek (fun c hc => upd_ne hc) rfl rfl upd_same (Inv.toT I q2)
            | cons _ _ => simp at q3
          | cons j ks =>
            have h1 := keys_all q1 j List.mem_cons_self
            have h2 := List.all_eq_true.mp ha j List.mem_cons_self
            obtain ⟨jj, ej⟩ := Option.isSome_iff_exists.mp h2
            rw [key_no ej] at h1; cases h1
        · exact goT ek (fun _ _ => rfl) q1 q3 q2 I
    · rw [if_neg hc] at e; cases e
  | _ => cases e
theorem st_sub {i : Nat} {rp : List SE} {se sk : SE} {e r k : Expr} {pos tpos : Pos} (hK : X.K = T.K) (hu : X.A.units + 1 < cLine) (he : PE X e (tE T B Φ W se)) (hr : PE X r (tRc T B Φ W i rp)) (hk : ∀ B' : Base, B'.pr = B.pr → PE X k (tE T B' Φ W sk))
    (hs : swapsWithSole [.Subscript r k tpos] e pos.line X.env = pure false) (hw : swappedStores [.Subscript r k tpos] e X.env = pure none) (h1 : (assignEach [.Subscript r k tpos] X.env).map (·.2) = [assign (.Subscript r k tpos) X.env])
    (ha : ∀ v, assign (.Subscript r k tpos) X.env v = (do
      let ov ← holding [v] (eval r X.env)
      let iv ← holding [v, ov] (eval k X.env)
      standAt tpos
      holding [v, ov, iv] (setItem ov iv v)
      release [v, ov, iv] [])) : PS X (.Assign [.Subscript r k tpos] e pos) (tS T B Φ W (.sub i (sk :: rp) se)) := by
  have hk' : PE X k (fun σ H Q => ∃ B' : Base, B'.pr = B.pr ∧ tE T B' Φ W sk σ H Q) := ⟨fun pins s σ H Q I ⟨B', hpr, h⟩ => (hk B' hpr).run pins s σ H Q I h⟩
  refine (ps_asg he (pg_sub hr hk' (set_pv (T := T) hu) ha) hs hw h1).pv fun D σ H ⟨ρ, l, at_, h⟩ => ?_
  rw [evS] at h
  refine ⟨ρ, l, at_, RG.rp (h.rg.mono fun ov ρ1 k1 w H1 a1 => ?_)⟩
  obtain ⟨o, eo, k1⟩ := k1.bnd
  obtain ⟨v, ev⟩ := a1.ok.at eo
  have a0 := a1.take eo ev
  have hi : i < σ.length := slot_lt' ev
  have k1 := k1.rg (σ := σ)
  rw [evKs] at k1
  refine ⟨ρ1.set i none, (ov, w) :: l, o, v, a0, ev, RG.more1 (RG.more1 (k1.bind.mono fun ks ρ2 k2 => ?_))⟩
  have k2 := k2.bind
  have key : ∀ (okk : O) (ρ3 : Env), RS T B W D l (PV.bnd (setPath (ks ++ [okk.frz]) o ov) fun o' => .ok .nx (ρ3.set i (some o'))) → ∃ o1 o2, pathO ks o (fun o => (setO o okk.frz ov).map fun o' => (.d .non, o')) = some (o1, o2) ∧ ∀ σ H, At T B H (ρ3.set i (some o2)) σ l → D.nx σ H := by
    intro okk ρ3 k3
    obtain ⟨o', e1, k3⟩ := RS.bnd k3
    unfold setPath at e1
    rw [List.getLast?_concat, List.dropLast_concat] at e1
    have e1 : (pathO ks o fun o => (setO o okk.frz ov).map fun o' => (O.d .non, o')).map (·.2) = some o' := e1
    obtain ⟨p, e2, e3⟩ := Option.map_eq_some_iff.mp e1
    obtain ⟨p1, p2⟩ := p
    subst e3
    exact ⟨p1, p2, e2, k3⟩
  refine ⟨?_, fun H2 x a2 pa => ?_⟩
  · cases e1 : PV.ev Φ sk ρ2 with
    | bad => rw [e1] at k2; exact k2.elim
    | exc C p ρ' => rw [e1] at k2; exact k2.elim
    | ok okk ρ3 =>
      rw [e1] at k2
      obtain ⟨o1, o2, e2, _⟩ := key okk ρ3 k2
      exact path_f e2 fun _ _ => rfl
  · obtain ⟨B', hpr, a3, back⟩ := a2.hold
    refine ⟨B', hpr, ρ2, (ov, w) :: l, a3, RG.rp (RG.held (K := _) (fun p hp => a2.pr p hp) (fun H' ρ' m a' => (back H' ρ' σ m a2.pr a').1) (RG.more1 (RG.more1 k2.unX)) fun okk ρ3 k3 => ?_)⟩
    intro y H3 a4
    obtain ⟨a5, pres⟩ := back H3 ρ3 σ _ a2.pr a4
    obtain ⟨r1, o2, e2, fin⟩ := key okk ρ3 k3
    have s5 : Sat T B H3 ((o, v) :: ((okk, y) :: (ov, w) :: (envIts ρ3 σ ++ l))) := a5.sat.perm (List.perm_middle.trans ((List.perm_middle.trans (List.perm_middle.cons _)).cons _))
    obtain ⟨o', x', ad, rest, o1, p1, ef, s6, close⟩ := path_open s5 e2
    have px := pres ks _ _ x e2 pa
    have ex : x = x' := px.inj p1
    subst ex
    obtain ⟨o1', es, eo1⟩ := Option.map_eq_some_iff.mp ef
    injection eo1 with _ eo1
    subst eo1
    refine ⟨B, o', okk, ov, rest ++ (envIts ρ3 σ ++ l), ad ++ [], o1', s6.perm (List.Perm.cons _ ?_), es, fun H' hb s7 => fin σ H' ?_⟩
    · exact List.perm_middle.trans (List.perm_middle.cons _)
    · have s8 : SatH T B H' [] ((o2, v) :: (envIts ρ3 σ ++ l)) := close H' _ (fun b hb' => hb b (by simp [hb'])) s7
      have a6 : At T B H' ρ3 σ ((o2, v) :: l) := ⟨a4.ok, s8.perm List.perm_middle.symm, a2.pr⟩
      have hi2 : i < ρ3.length := by rw [a4.ok.len]; exact hi
      have t := (a6.clear i).fill (i := i) (by unfold slotE; rw [List.getElem?_set_self hi2]; rfl) (by simpa using hi2) ev
      rw [List.set_set] at t
      exact t
end
end PV
/-! PV20: comprehensions -/
namespace PV
open PySem PySem.Spec PyProof.Rows L2
section
variable {T : Tab} {B : Base} {H H' : Hp} {ρ ρ' : Env} {σ : L2.St} {l m : List It1} {i : Nat} {s : Option V}
theorem env_wipe : ∀ {ρ : Env} {σ : L2.St} {i : Nat} (s : Option V), slotE ρ i = none → EnvOk ρ σ → EnvOk ρ (σ.set i s) ∧ envIts ρ (σ.set i s) = envIts ρ σ
  | [], [], i, s, h, e => ⟨e, rfl⟩
  | none :: ρ, x :: σ, 0, s, h, e => ⟨e, by cases s <;> cases x <;> rfl⟩
  | some o :: ρ, x :: σ, 0, s, h, e => by simp at h
  | none :: ρ, x :: σ, i + 1, s, h, e => by
    obtain ⟨h1, h2⟩ := env_wipe (ρ := ρ) (σ := σ) (i := i) s h e
    exact ⟨h1, by cases x <;> simpa [envIts] using h2⟩
  | some o :: ρ, some x :: σ, i + 1, s, h, e => by
    obtain ⟨h1, h2⟩ := env_wipe (ρ := ρ) (σ := σ) (i := i) s h e
    exact ⟨h1, by simp [envIts, h2]⟩
  | some o :: ρ, none :: σ, i + 1, s, h, e => e.elim
  | [], _ :: _, i, s, h, e => e.elim
  | none :: _, [], i, s, h, e => e.elim
  | some _ :: _, [], i, s, h, e => e.elim
theorem At.set0 (a : At T B H ρ σ l) (h : slotE ρ i = none) (hp : ∀ p ∈ B.pr, p.1 ≠ i) : At T B H ρ (σ.set i s) l := by
  obtain ⟨h1, h2⟩ := env_wipe s h a.ok
  exact ⟨h1, by rw [h2]; exact a.sat, fun p hp' => by rw [List.getElem?_set_ne (Ne.symm (hp p hp'))]; exact a.pr p hp'⟩
theorem At.wipe {own : List Nat} (a : At T B H ρ σ l) (h : ∀ i ∈ own, slotE ρ i = none) (hp : ∀ p ∈ B.pr, p.1 ∉ own) : At T B H ρ (L2.wipe σ own) l := by
  induction own with
  | nil => exact a
  | cons i r ih =>
    have := ih (fun j hj => h j (List.mem_cons_of_mem _ hj)) (fun p hp' z => hp p hp' (List.mem_cons_of_mem _ z))
    exact this.set0 (h i List.mem_cons_self) fun p hp' e => hp p hp' (e ▸ List.mem_cons_self)
theorem slot_kill : ∀ {own : List Nat} {ρ : Env} {i : Nat}, i ∈ own ∨ slotE ρ i = none → slotE (killE own ρ) i = none
  | [], ρ, i, h => h.elim (fun z => by cases z) id
  | j :: r, ρ, i, h => by
    unfold killE
    refine slot_kill ?_
    by_cases e : i = j
    · subst e
      refine .inr ?_
      unfold slotE
      by_cases hl : i < ρ.length
      · rw [List.getElem?_set_self hl]; rfl
      · rw [List.getElem?_eq_none (by simpa using hl)]; rfl
    · rcases h with h | h
      · exact .inl ((List.mem_cons.mp h).resolve_left e)
      · refine .inr ?_
        unfold slotE
        rw [List.getElem?_set_ne (Ne.symm e)]
        exact h
theorem env_same : ∀ {ρ : Env} {σ σ' : L2.St}, σ.length = σ'.length → (∀ i, slotE ρ i ≠ none → σ[i]? = σ'[i]?) → EnvOk ρ σ → EnvOk ρ σ' ∧ envIts ρ σ' = envIts ρ σ
  | [], [], [], hl, h, e => ⟨e, rfl⟩
  | none :: ρ, x :: σ, y :: σ', hl, h, e => by
    obtain ⟨h1, h2⟩ := env_same (ρ := ρ) (σ := σ) (σ' := σ') (by simpa using hl) (fun i hi => by simpa using h (i + 1) hi) e
    exact ⟨h1, by cases x <;> cases y <;> simpa [envIts] using h2⟩
  | some o :: ρ, some x :: σ, y :: σ', hl, h, e => by
    have h0 := h 0 (by simp)
    simp at h0
    subst h0
    obtain ⟨h1, h2⟩ := env_same (ρ := ρ) (σ := σ) (σ' := σ') (by simpa using hl) (fun i hi => by simpa using h (i + 1) hi) e
    exact ⟨h1, by simp [envIts, h2]⟩
  | some o :: ρ, none :: σ, σ', hl, h, e => e.elim
  | [], _ :: _, σ', hl, h, e => e.elim
  | none :: _, [], σ', hl, h, e => e.elim
  | some _ :: _, [], σ', hl, h, e => e.elim
  | [], [], _ :: _, hl, h, e => by simp at hl
  | _ :: _, _ :: _, [], hl, h, e => by simp at hl
theorem wipe_out {σ : L2.St} {i : Nat} : ∀ {own : List Nat}, i ∉ own → (L2.wipe σ own)[i]? = σ[i]?
  | [], h => rfl
  | j :: r, h => by
    show ((L2.wipe σ r).set j none)[i]? = σ[i]?
    have hij : j ≠ i := fun z => h (by rw [z]; exact List.mem_cons_self)
    rw [List.getElem?_set_ne hij]
    exact wipe_out fun z => h (List.mem_cons_of_mem _ z)
theorem At.unwipe {own : List Nat} (a : At T B H ρ (L2.wipe σ own) l) (h : ∀ i ∈ own, slotE ρ i = none) (hp : ∀ p ∈ B.pr, p.1 ∉ own) : At T B H ρ σ l := by
  obtain ⟨h1, h2⟩ := env_same (σ' := σ) (by rw [wipe_length]) (fun i hi => wipe_out fun z => hi (h i z)) a.ok
  exact ⟨h1, by rw [h2]; exact a.sat, fun p hp' => by rw [← wipe_out (own := own) (hp p hp')]; exact a.pr p hp'⟩
theorem slot_set {ρ : Env} {i j : Nat} {o : Option O} (h : i ≠ j) : slotE (ρ.set j o) i = slotE ρ i := by
  unfold slotE
  rw [List.getElem?_set_ne (Ne.symm h)]
theorem slot_none {ρ : Env} {i : Nat} : slotE (ρ.set i none) i = none := by
  unfold slotE
  by_cases hl : i < ρ.length
  · rw [List.getElem?_set_self hl]; rfl
  · rw [List.getElem?_eq_none (by simpa using hl)]; rfl
theorem backE_congr : ∀ {own : List Nat} {ρ0 ρ1 ρ : Env}, (∀ i ∈ own, slotE ρ0 i = slotE ρ1 i) → backE own ρ0 ρ = backE own ρ1 ρ
  | [], ρ0, ρ1, ρ, h => rfl
  | i :: r, ρ0, ρ1, ρ, h => by
    unfold backE
    rw [h i List.mem_cons_self]
    exact backE_congr fun j hj => h j (List.mem_cons_of_mem _ hj)
theorem set_none {ρ : Env} {i : Nat} (h : slotE ρ i = none) : ρ.set i none = ρ := by
  apply List.ext_getElem?
  intro j
  by_cases hj : j = i
  · subst hj
    rcases Nat.lt_or_ge j ρ.length with z | z
    · rw [List.getElem?_set_self z]
      unfold slotE at h
      cases q : ρ[j]? with
      | none => rw [List.getElem?_eq_none_iff] at q; omega
      | some w => rw [q] at h; cases w with
        | none => rfl
        | some w => cases h
    · rw [List.getElem?_eq_none (by simpa using z), List.getElem?_eq_none z]
  · rw [List.getElem?_set_ne (Ne.symm hj)]
/-- the block's own slots: their things aside, and back -/
theorem own_aside : ∀ {own : List Nat} {ρ : Env} {l : List It1}, own.Nodup → At T B H ρ σ l → ∃ outs : List It1, At T B H (killE own ρ) σ (outs ++ l) ∧
    ∀ (H' : Hp) (ρ' : Env) (m : List It1), ρ'.length = ρ.length → (∀ i ∈ own, slotE ρ' i = none) → At T B H' ρ' σ (outs ++ m) → At T B H' (backE own ρ ρ') σ m
  | [], ρ, l, nd, a => ⟨[], a, fun H' ρ' m _ _ a' => a'⟩
  | i :: r, ρ, l, nd, a => by
    obtain ⟨nin, nd⟩ := List.nodup_cons.mp nd
    cases e : slotE ρ i with
    | none =>
      obtain ⟨outs, a1, back⟩ := own_aside (own := r) nd a
      refine ⟨outs, ?_, fun H' ρ' m hl hn a' => ?_⟩
      · unfold killE
        rw [set_none e]; exact a1
      · unfold backE
        rw [e, set_none (hn i List.mem_cons_self)]
        exact back H' ρ' m hl (fun j hj => hn j (List.mem_cons_of_mem _ hj)) a'
    | some o =>
      obtain ⟨v, ev⟩ := a.ok.at e
      obtain ⟨outs, a1, back⟩ := own_aside (own := r) nd (a.take e ev)
      refine ⟨outs ++ [(o, v)], ?_, fun H' ρ' m hl hn a' => ?_⟩
      · unfold killE
        rw [List.append_assoc]; exact a1
      · unfold backE
        rw [e]
        have hi : i < ρ'.length := by rw [hl]; exact slot_lt e
        have a2 : At T B H' ρ' σ ((o, v) :: (outs ++ m)) := a'.perm (by rw [List.append_assoc]; exact List.perm_middle)
        have a3 : At T B H' (ρ'.set i (some o)) σ (outs ++ m) := a2.fill (hn i List.mem_cons_self) hi ev
        rw [backE_congr (ρ1 := ρ.set i none) fun j hj => (slot_set (fun z => nin (by rw [← z]; exact hj) : j ≠ i)).symm]
        have ne : ∀ j ∈ r, j ≠ i := fun j hj z => nin (by rw [← z]; exact hj)
        exact back H' _ m (by simp [hl]) (fun j hj => by rw [slot_set (ne j hj)]; exact hn j (List.mem_cons_of_mem _ hj)) a3
end
/-- no exception of a block -/
def WF : WX := fun _ _ _ _ => False
def tTs (T : Tab) (B : Base) (Φ : Phi) (ses : List SE) : TT := fun σ H Q => ∃ ρ l, At T B H ρ σ l ∧ RG T B WF σ l (evCs Φ ses ρ) fun b ρ' => ∀ H', At T B H' ρ' σ l → Q b H'
section
variable {T : Tab} {B : Base} {Φ : Phi} {W : WX} {X : Cx} {H : Hp} {ρ : Env} {σ : L2.St} {l : List It1}
theorem s_ts0 : PTs X [] (tTs T B Φ []) := ⟨fun pins s σ H Q I ⟨ρ, l, a, h⟩ => pts_nil.run pins s σ H Q I (by rw [evCs] at h; exact h H a)⟩
theorem s_ts1 {c : Expr} {sc : SE} (h : PT X c (tT T B Φ WF sc)) : PTs X [c] (tTs T B Φ [sc]) := ⟨fun pins s σ H Q I ⟨ρ, l, a, h1⟩ => (pts_one h).run pins s σ H Q I ⟨ρ, l, a, by rw [evCs] at h1; exact h1⟩⟩
theorem wipe_same {own is : List Nat} {σ σ' : L2.St} (h : SameBut is σ σ') (hs : ∀ i ∈ is, i ∈ own) : L2.wipe σ' own = L2.wipe σ own := by
  have key : ∀ (own : List Nat) (σ : L2.St) (j : Nat), j < σ.length → (L2.wipe σ own)[j]? = if j ∈ own then some none else σ[j]? := by
    intro own
    induction own with
    | nil => intro σ j hj; simp [L2.wipe]
    | cons i r ih =>
      intro σ j hj
      show ((L2.wipe σ r).set i none)[j]? = _
      by_cases e : j = i
      · subst e
        rw [List.getElem?_set_self (by rw [wipe_length]; exact hj), if_pos List.mem_cons_self]
      · rw [List.getElem?_set_ne (Ne.symm e), ih σ j hj]
        by_cases m : j ∈ r
        · rw [if_pos m, if_pos (List.mem_cons_of_mem _ m)]
        · rw [if_neg m, if_neg (fun z => (List.mem_cons.mp z).elim e m)]
  apply List.ext_getElem?
  intro j
  rcases Nat.lt_or_ge j σ.length with hj | hj
  · rw [key own σ' j (by rw [h.1]; exact hj), key own σ j hj]
    by_cases m : j ∈ own
    · rw [if_pos m, if_pos m]
    · rw [if_neg m, if_neg m, h.2 j fun z => m (hs j z)]
  · rw [List.getElem?_eq_none (by rw [wipe_length, h.1]; exact hj), List.getElem?_eq_none (by rw [wipe_length]; exact hj)]
theorem comp_lc {own : List (Str × Nat)} {t : Tg} {ie : IE} {se : SE} {sifs : List SE} {Q : VK}
    (hlen : ∀ ρ p ρ', evI Φ ie ρ = .ok p ρ' → p.1.length = p.2.1.length) (nd : (own.map (·.2)).Nodup) (hp : ∀ p ∈ B.pr, p.1 ∉ own.map (·.2)) (htg : ∀ i ∈ tgSlots t, i ∈ own.map (·.2)) (h0 : tE T B Φ W (.comp .lst se (own.map (·.2)) t ie sifs) σ H Q) :
    tLc (tI T B Φ W ie) (gT T B t) (tTs T B Φ sifs) (tE T B Φ WF se) (own.map (·.2)) σ H Q := by
    obtain ⟨ρ, l, at_, h⟩ := h0
    rw [ev] at h
    refine ⟨ρ, l, at_, h.rg.bind.eq.mono fun q ρ1 ⟨eq_, k⟩ vs J H1 hvl av a1 wk hz D hD => ?_⟩
    obtain ⟨as, os, ds⟩ := q
    have hal : as.length = os.length := hlen _ _ _ eq_
    simp only at k hvl av a1 wk hz
    generalize hf : (fun (x : PV.D) (ρ : Env) => bnd (asgT t x ρ) fun ρ => (evCs Φ sifs ρ).bind fun b ρ => tst b ((ev Φ se ρ).bind fun o ρ => Res.ok (some o) (killE (own.map (·.2)) ρ)) (Res.ok none (killE (own.map (·.2)) ρ))) = f at k
    obtain ⟨outs, a2, back⟩ := own_aside nd a1
    have hn0 : ∀ i ∈ own.map (·.2), slotE (killE (own.map (·.2)) ρ1) i = none := fun i hi => slot_kill (.inl hi)
    have a3 := a2.wipe hn0 hp
    -- the end
    have fin : ∀ (oss : List O) (ρe : Env) (v : V) (H2 : Hp), RG T B W σ l ((Res.ok oss ρe).noX.bind fun os' ρ' => Res.ok (O.lst os') (backL as os (backE (own.map (·.2)) ρ1 ρ'))) (fun o ρ => ∀ v H, At T B H ρ σ ((o, v) :: l) → Q v H) → (∀ i ∈ own.map (·.2), slotE ρe i = none) →
        At T B H2 ρe (L2.wipe σ (own.map (·.2))) ((.lst oss, v) :: (outs ++ (os.zip vs ++ l))) → Q v H2 := by
      intro oss ρe v H2 k2 hn a
      have k2 : ∀ v H, At T B H (backL as os (backE (own.map (·.2)) ρ1 ρe)) σ ((.lst oss, v) :: l) → Q v H := k2
      refine k2 v H2 ?_
      have b1 := a.unwipe hn hp
      have b2 : At T B H2 ρe σ (outs ++ ((.lst oss, v) :: (os.zip vs ++ l))) := b1.perm List.perm_middle.symm
      have hl : ρe.length = ρ1.length := by rw [b1.ok.len, a1.ok.len]
      have b3 := back H2 ρe _ hl hn b2
      exact backL_at (as := as) (os := os) (vs := vs) hvl (b3.perm List.perm_middle.symm) av
    have w : Walk J ds.length (fun H => ∃ l', Sat T B H (os.zip vs ++ l')) (fun i H v H' => ∀ l', Sat T B H (os.zip vs ++ l') → ∃ d, ds[i]? = some d ∧ Sat T B H' ((.d d, v) :: (os.zip vs ++ l'))) :=
      ⟨fun i H hi ⟨l', s⟩ => wk.goes i H l' hi s, fun H ⟨l', s⟩ => wk.stops H l' s, fun i H v H' hi _ y l' s => wk.yields i H v H' l' hi s y⟩
    have hd : ∀ {m : List It1} {H : Hp} {ρi : Env} {σ' : L2.St}, At T B H ρi σ' (m ++ (outs ++ (os.zip vs ++ l))) → Sat T B H (os.zip vs ++ (envIts ρi σ' ++ (m ++ (outs ++ l)))) := fun {m H ρi σ'} a => a.sat.perm (by
      have p1 : (m ++ (outs ++ (os.zip vs ++ l))).Perm (os.zip vs ++ (m ++ (outs ++ l))) := (swap_its.append_left m).trans swap_its
      exact (p1.append_left _).trans swap_its)
    refine lc_it (g := gT T B t) (tt := tTs T B Φ sifs) (te := tE T B Φ WF se) w (fun i H => ∃ ρi oss, (∀ j ∈ own.map (·.2), slotE ρi j = none) ∧ oss.length ≤ i ∧ At T B H ρi (L2.wipe σ (own.map (·.2))) ((.lst oss, .ref D) :: (outs ++ (os.zip vs ++ l))) ∧
      RG T B W σ l (((compL f (ds.drop i) ρi).bind fun rest ρ => Res.ok (oss ++ rest) ρ).noX.bind fun os' ρ' => Res.ok (O.lst os') (backL as os (backE (own.map (·.2)) ρ1 ρ'))) (fun o ρ => ∀ v H, At T B H ρ σ ((o, v) :: l) → Q v H)) ?_ ?_ ?_ ?_
    · refine ⟨killE (own.map (·.2)) ρ1, [], hn0, Nat.le_refl _, ⟨a3.ok, ?_, a3.pr⟩, ?_⟩
      · have s1 : Sat T B H1 (([] : List O).zip ([] : List V) ++ (envIts (killE (own.map (·.2)) ρ1) (L2.wipe σ (own.map (·.2))) ++ (outs ++ (os.zip vs ++ l)))) := a3.sat
        exact (Sat.newL s1 rfl hD).perm List.perm_middle.symm
      · rw [List.drop_zero]
        have : ((compL f ds (killE (own.map (·.2)) ρ1)).bind fun rest ρ => Res.ok ([] ++ rest) ρ) = compL f ds (killE (own.map (·.2)) ρ1) := by
          generalize compL f ds (killE (own.map (·.2)) ρ1) = r
          cases r <;> rfl
        rw [this]
        exact k
    · rintro i H2 _ ⟨ρi, oss, _, _, a4, _⟩
      exact ⟨_, hd (m := [_]) a4⟩
    · rintro i x H2 H3 hi2 ⟨ρi, oss, hni, hoi, a4, k4⟩ y
      obtain ⟨d, hdd, s5⟩ := y _ (hd (m := [(.lst oss, .ref D)]) a4)
      have ed : ds.drop i = d :: ds.drop (i + 1) := by
        obtain ⟨hj, hv⟩ := List.getElem?_eq_some_iff.mp hdd
        rw [← hv]
        exact List.drop_eq_getElem_cons hj
      rw [ed, compL] at k4
      have a5 : At T B H3 ρi (L2.wipe σ (own.map (·.2))) ((.d d, x) :: (.lst oss, .ref D) :: (outs ++ (os.zip vs ++ l))) := ⟨a4.ok, s5.perm (by
        have p0 : ((O.lst oss, V.ref D) :: (outs ++ (os.zip vs ++ l))).Perm (os.zip vs ++ ([(O.lst oss, V.ref D)] ++ (outs ++ l))) := by
          have p1 : ([(O.lst oss, V.ref D)] ++ (outs ++ (os.zip vs ++ l))).Perm (os.zip vs ++ ([(O.lst oss, V.ref D)] ++ (outs ++ l))) := (swap_its.append_left _).trans swap_its
          exact p1
        have p2 : (os.zip vs ++ (envIts ρi (L2.wipe σ (own.map (·.2))) ++ ([(O.lst oss, V.ref D)] ++ (outs ++ l)))).Perm (envIts ρi (L2.wipe σ (own.map (·.2))) ++ ((O.lst oss, V.ref D) :: (outs ++ (os.zip vs ++ l)))) := swap_its.trans (p0.symm.append_left _)
        exact (p2.cons _).trans List.perm_middle.symm), a4.pr⟩
      have ef : f d ρi = bnd (asgT t d ρi) fun ρ => (evCs Φ sifs ρ).bind fun b ρ => tst b ((ev Φ se ρ).bind fun o ρ => Res.ok (some o) (killE (own.map (·.2)) ρ)) (Res.ok none (killE (own.map (·.2)) ρ)) := by rw [← hf]
      rw [ef] at k4
      cases ea : asgT t d ρi with
      | none => rw [ea] at k4; exact k4.elim
      | some ρ2 =>
        rw [ea] at k4
        refine ⟨d, ρi, ρ2, _, a5, ea, fun σ' sm a6 => ⟨(wipe_same sm htg).trans (by
          have key : ∀ (own : List Nat), L2.wipe (L2.wipe σ own) own = L2.wipe σ own := fun own => wipe_same ⟨by rw [wipe_length], fun j hj => wipe_out hj⟩ fun i hi => hi
          exact key _), ρ2, _, a6, ?_⟩⟩
        have turn : ∀ {H' : Hp} {ρ' : Env} {m : List It1}, At T B H' ρ' σ' m → At T B H' (killE (own.map (·.2)) ρ') (L2.wipe σ (own.map (·.2))) m := fun {H' ρ' m} a => by
          have b := (a.kill (is := own.map (·.2)))
          have b1 : At T B H' (killE (own.map (·.2)) ρ') (L2.wipe σ' (own.map (·.2))) m := b.wipe (fun i hi => slot_kill (.inl hi)) hp
          have e1 : L2.wipe σ' (own.map (·.2)) = L2.wipe σ (own.map (·.2)) := (wipe_same sm htg).trans (wipe_same ⟨by rw [wipe_length], fun j hj => wipe_out hj⟩ fun i hi => hi)
          rw [e1] at b1
          exact b1
        cases ec : evCs Φ sifs ρ2 with
        | bad => simp only [bnd_some, ec] at k4; exact k4.elim
        | exc C p ρ3 => simp only [bnd_some, ec] at k4; exact k4.elim
        | ok b ρ3 =>
          simp only [bnd_some, ec, Res.bind_ok] at k4
          intro H4 a7
          cases b with
          | false =>
            rw [if_neg Bool.false_ne_true]
            refine ⟨killE (own.map (·.2)) ρ3, oss, fun j hj => slot_kill (.inl hj), by omega, turn a7, ?_⟩
            simp only [tst_false, Res.bind_ok] at k4
            have e2 : (((compL f (ds.drop (i + 1)) (killE (own.map (·.2)) ρ3)).bind fun os ρ => Res.ok os ρ).bind fun rest ρ => Res.ok (oss ++ rest) ρ) = (compL f (ds.drop (i + 1)) (killE (own.map (·.2)) ρ3)).bind fun rest ρ => Res.ok (oss ++ rest) ρ := by
              generalize compL f (ds.drop (i + 1)) (killE (own.map (·.2)) ρ3) = r
              cases r <;> rfl
            rw [e2] at k4
            exact k4
          | true =>
            rw [if_pos rfl]
            simp only [tst_true] at k4
            refine ⟨ρ3, _, a7, ?_⟩
            cases ee : ev Φ se ρ3 with
            | bad => simp only [ee] at k4; exact k4.elim
            | exc C p ρ4 => simp only [ee] at k4; exact k4.elim
            | ok o ρ4 =>
              simp only [ee, Res.bind_ok] at k4
              intro y H5 a8
              have s9 : Sat T B H5 ((.lst oss, .ref D) :: (envIts ρ4 σ' ++ ((o, y) :: (outs ++ (os.zip vs ++ l))))) := a8.sat.perm (by
                have p1 : ((o, y) :: (O.lst oss, V.ref D) :: (outs ++ (os.zip vs ++ l))).Perm ((O.lst oss, V.ref D) :: (o, y) :: (outs ++ (os.zip vs ++ l))) := .swap _ _ _
                exact (p1.append_left _).trans List.perm_middle)
              obtain ⟨D', acc, eD, hDa, hla, s10⟩ := s9.openL
              cases eD
              refine ⟨acc, hDa, by omega, killE (own.map (·.2)) ρ4, oss ++ [o], fun j hj => slot_kill (.inl hj), by simp; omega, turn ⟨a8.ok, ?_, a8.pr⟩, ?_⟩
              · have s11 : SatH T B H5 [D] ((oss ++ [o]).zip (acc ++ [y]) ++ (envIts ρ4 σ' ++ (outs ++ (os.zip vs ++ l)))) := by
                  rw [List.zip_append hla, List.append_assoc]
                  exact s10.perm (List.Perm.append_left _ List.perm_middle)
                exact ((s11.write (lst_not hDa).1 (lst_not hDa).2).closeL upd_same (by simp [hla])).perm List.perm_middle.symm
              · have e2 : (((compL f (ds.drop (i + 1)) (killE (own.map (·.2)) ρ4)).bind fun os ρ => Res.ok (o :: os) ρ).bind fun rest ρ => Res.ok (oss ++ rest) ρ) = (compL f (ds.drop (i + 1)) (killE (own.map (·.2)) ρ4)).bind fun rest ρ => Res.ok (oss ++ [o] ++ rest) ρ := by
                  generalize compL f (ds.drop (i + 1)) (killE (own.map (·.2)) ρ4) = r
                  cases r <;> simp
                rw [e2] at k4
                exact k4
    · rintro H2 ⟨ρi, oss, hni, _, a4, k4⟩
      rw [List.drop_of_length_le (Nat.le_refl _), compL] at k4
      have k4 : RG T B W σ l ((Res.ok (oss ++ []) ρi).noX.bind fun os' ρ' => Res.ok (O.lst os') (backL as os (backE (own.map (·.2)) ρ1 ρ'))) (fun o ρ => ∀ v H, At T B H ρ σ ((o, v) :: l) → Q v H) := k4
      rw [List.append_nil] at k4
      exact fin oss ρi _ H2 k4 hni a4
theorem s_comp {elt tg iter : Expr} {ifs : List Expr} {scope : Scope} {own : List (Str × Nat)} {t : Tg} {ie : IE} {se : SE} {sifs : List SE} {pos : Pos}
    (hlen : ∀ ρ p ρ', evI Φ ie ρ = .ok p ρ' → p.1.length = p.2.1.length) (hc : X.calm = true) (hN : X.N.Nodup) (nd : (own.map (·.2)).Nodup) (hp : ∀ p ∈ B.pr, p.1 ∉ own.map (·.2)) (htg : ∀ i ∈ tgSlots t, i ∈ own.map (·.2))
    (hi : PI X tg iter (tI T B Φ W ie)) (ok : BlkOk X.N X.env.scope scope own)
    (hg : ∀ (s : Shared) (H : Hp) (C : Addr) (cl : List (Str × Addr)) (fp : List Addr), PG (X.blk s H scope (compEnvC scope cl C X.env) fp) tg (gT T B t))
    (ht : ∀ (s : Shared) (H : Hp) (C : Addr) (cl : List (Str × Addr)) (fp : List Addr), PTs (X.blk s H scope (compEnvC scope cl C X.env) fp) ifs (tTs T B Φ sifs))
    (he : ∀ (s : Shared) (H : Hp) (C : Addr) (cl : List (Str × Addr)) (fp : List Addr), PE (X.blk s H scope (compEnvC scope cl C X.env) fp) elt (tE T B Φ WF se)) (hs : ∀ x, foldedSetIterable iter X.env x = pure x) :
    PE X (.ListComp elt [⟨tg, iter, ifs, 0⟩] scope pos) (tE T B Φ W (.comp .lst se (own.map (·.2)) t ie sifs)) :=
  (pe_lc hc hN hi ok hg ht he hs).pv fun σ H Q h => comp_lc hlen nd hp htg h
/-- y = [..], y a local, on one line -/
theorem st_asgLc {i : Nat} {y : Str} {py spos : Pos} {elt tg iter : Expr} {ifs : List Expr} {scope : Scope} {own : List (Str × Nat)} {t : Tg} {ie : IE} {se : SE} {sifs : List SE} {pos : Pos}
    (hlen : ∀ ρ p ρ', evI Φ ie ρ = .ok p ρ' → p.1.length = p.2.1.length) (hc : X.calm = true) (hN : X.N.Nodup) (hy : X.N[i]? = some y) (hyl : X.env.scope.names.lookup y = some .local) (hpi : ∀ p ∈ B.pr, p.1 ≠ i)
    (hsw : swapsWith (.ListComp elt [⟨tg, iter, ifs, 0⟩] scope pos) (some (.Name y py)) spos.line X.env = pure true) (nd : (own.map (·.2)).Nodup) (hp : ∀ p ∈ B.pr, p.1 ∉ own.map (·.2)) (htg : ∀ i ∈ tgSlots t, i ∈ own.map (·.2))
    (hi : PI X tg iter (tI T B Φ W ie)) (ok : BlkOk X.N X.env.scope scope own)
    (hg : ∀ (s : Shared) (H : Hp) (C : Addr) (cl : List (Str × Addr)) (fp : List Addr), PG (X.blk s H scope (compEnvC scope cl C X.env) fp) tg (gT T B t))
    (ht : ∀ (s : Shared) (H : Hp) (C : Addr) (cl : List (Str × Addr)) (fp : List Addr), PTs (X.blk s H scope (compEnvC scope cl C X.env) fp) ifs (tTs T B Φ sifs))
    (he : ∀ (s : Shared) (H : Hp) (C : Addr) (cl : List (Str × Addr)) (fp : List Addr), PE (X.blk s H scope (compEnvC scope cl C X.env) fp) elt (tE T B Φ WF se)) (hs : ∀ x, foldedSetIterable iter X.env x = pure x) :
    PS X (.Assign [.Name y py] (.ListComp elt [⟨tg, iter, ifs, 0⟩] scope pos) spos) (tS T B Φ W (.asg (.nm i) (.comp .lst se (own.map (·.2)) t ie sifs))) := by
  refine ⟨fun pins s σ H D I ⟨ρ, l, at_, h⟩ => (ps_setLc hc hN hy hyl hsw hi ok hg ht he hs).run pins s σ H D I ?_⟩
  rw [evS] at h
  show tLc (tI T B Φ W ie) (gT T B t) (tTs T B Φ sifs) (tE T B Φ WF se) (own.map (·.2)) σ H (fun v H1 => gName i v σ H1 D.nx)
  refine comp_lc hlen nd hp htg ⟨ρ, l, at_, RG.rp (h.rg.mono fun o ρ1 k v H1 a1 => ?_)⟩
  have k : RS T B W D l (PV.bnd (asgO (.nm i) o ρ1) fun ρ => .ok .nx ρ) := k
  rw [asgO] at k
  have k : ∀ σ H, At T B H (ρ1.set i (some o)) σ l → D.nx σ H := k
  have hl : i < ρ1.length := by rw [a1.ok.len, I.len]; exact (List.getElem?_eq_some_iff.mp hy).1
  exact k _ _ (a1.store hl hpi)
end
end PV
/-! PV21: calls of any kind: keywords, defaults, methods, made objects, properties, own len, in, == -/
namespace PV
open PySem PySem.Spec PyProof.Rows L2
def arrX {α : Type} (dv : D → α) (as : List α) : List (Nat ⊕ D) → Option (List α)
  | [] => some []
  | .inl i :: r => match as[i]?, arrX dv as r with
    | some a, some l => some (a :: l)
    | _, _ => none
  | .inr d :: r => (arrX dv as r).map (dv d :: ·)
theorem arr_X {as : List Arg} : ∀ {g : List (Nat ⊕ D)}, arr as g = arrX (fun d => .val (.d d)) as g
  | [] => rfl
  | .inl i :: r => by
    rw [arr, arrX, arr_X]
    cases as[i]? <;> cases arrX (fun d => Arg.val (O.d d)) as r <;> rfl
  | .inr d :: r => by rw [arr, arrX, arr_X]
def inls : List (Nat ⊕ D) → List Nat
  | [] => []
  | .inl i :: r => i :: inls r
  | .inr _ :: r => inls r
theorem arrX_two {α β : Type} {R : α → β → Prop} {da : D → α} {db : D → β} {as : List α} {bs : List β} (hl : as.length = bs.length) (h : ∀ (i : Nat) a b, as[i]? = some a → bs[i]? = some b → R a b) :
    ∀ {g : List (Nat ⊕ D)} {xs : List α}, (∀ d, .inr d ∈ g → R (da d) (db d)) → arrX da as g = some xs → ∃ ys, arrX db bs g = some ys ∧ xs.length = ys.length ∧ ∀ (i : Nat) a b, xs[i]? = some a → ys[i]? = some b → R a b
  | [], xs, _, e => by
    injection e with e; subst e
    exact ⟨[], rfl, rfl, fun i a b h => by simp at h⟩
  | .inl i :: r, xs, hd, e => by
    rw [arrX] at e
    cases e1 : as[i]? with
    | none => rw [e1] at e; cases e
    | some a =>
      cases e2 : arrX da as r with
      | none => rw [e1, e2] at e; cases e
      | some l =>
        rw [e1, e2] at e
        injection e with e; subst e
        obtain ⟨ys, q1, q2, q3⟩ := arrX_two hl h (fun d hd' => hd d (List.mem_cons_of_mem _ hd')) e2
        have hi : i < bs.length := by
          rw [← hl]
          exact (List.getElem?_eq_some_iff.mp e1).1
        refine ⟨bs[i] :: ys, by rw [arrX, List.getElem?_eq_getElem hi, q1], by simp [q2], fun j a' b' h1 h2 => ?_⟩
        cases j with
        | zero =>
          simp at h1 h2
          subst h1 h2
          exact h i _ _ e1 (List.getElem?_eq_getElem hi)
        | succ j => exact q3 j a' b' (by simpa using h1) (by simpa using h2)
  | .inr d :: r, xs, hd, e => by
    rw [arrX] at e
    obtain ⟨l, e2, e⟩ := Option.map_eq_some_iff.mp e
    subst e
    obtain ⟨ys, q1, q2, q3⟩ := arrX_two hl h (fun d hd' => hd d (List.mem_cons_of_mem _ hd')) e2
    refine ⟨db d :: ys, by rw [arrX, q1]; rfl, by simp [q2], fun j a' b' h1 h2 => ?_⟩
    cases j with
    | zero =>
      simp at h1 h2
      subst h1 h2
      exact hd d List.mem_cons_self
    | succ j => exact q3 j a' b' (by simpa using h1) (by simpa using h2)
theorem perm_of_sub : ∀ {I L : List Nat}, I.Nodup → (∀ i ∈ I, i ∈ L) → ∃ R, L.Perm (I ++ R)
  | [], L, _, _ => ⟨L, .refl _⟩
  | i :: I, L, nd, h => by
    obtain ⟨n1, n2⟩ := List.nodup_cons.mp nd
    have p := List.perm_cons_erase (h i List.mem_cons_self)
    obtain ⟨R, q⟩ := perm_of_sub (I := I) (L := L.erase i) n2 fun j hj => (List.mem_erase_of_ne (fun e => n1 (by rw [← e]; exact hj))).mpr (h j (List.mem_cons_of_mem _ hj))
    exact ⟨R, p.trans (q.cons i)⟩
def itAt (as : List Arg) (vs : List V) (i : Nat) : List It1 := match as[i]?, vs[i]? with
  | some a, some v => argIts a v
  | _, _ => []
theorem its_flat : ∀ {as : List Arg} {vs : List V}, as.length = vs.length → argItsL as vs = (List.range as.length).flatMap (itAt as vs)
  | [], [], _ => rfl
  | a :: as, v :: vs, hl => by
    show argIts a v ++ argItsL as vs = _
    rw [its_flat (as := as) (vs := vs) (by simpa using hl), List.length_cons, List.range_succ_eq_map, List.flatMap_cons, List.flatMap_map]
    rfl
  | [], _ :: _, hl => by simp at hl
  | _ :: _, [], hl => by simp at hl
theorem flatMap_perm {α β : Type} {l l' : List α} (f : α → List β) (p : l.Perm l') : (l.flatMap f).Perm (l'.flatMap f) := by
  induction p with
  | nil => exact .refl _
  | cons x _ ih => exact ih.append_left _
  | swap x y l =>
    show (f y ++ (f x ++ l.flatMap f)).Perm (f x ++ (f y ++ l.flatMap f))
    rw [← List.append_assoc, ← List.append_assoc]
    exact List.perm_append_comm.append_right _
  | trans _ _ a b => exact a.trans b
section
variable {T : Tab} {B : Base} {Φ : Phi} {W : WX} {X : Cx} {σ : L2.St} {l : List It1} {H : Hp} {ρ : Env}
theorem At.lits (a : At T B H ρ σ l) {d : D} {v : V} (h : ∀ own hp, Dr T own hp d v) : At T B H ρ σ ((.d d, v) :: l) := ⟨a.ok, (a.sat.lit h).perm List.perm_middle.symm, a.pr⟩
theorem argv_at : ∀ {as : List Arg} {vs : List V} {i : Nat} {x : Arg} (hv : i < vs.length), ArgVs σ as vs → as[i]? = some x → ArgV σ x vs[i]
  | [], vs, i, x, hv, av, e => by simp at e
  | b :: as, [], i, x, hv, av, e => by simp at hv
  | b :: as, v :: vs, 0, x, hv, av, e => by simp at e; subst e; exact av.1
  | b :: as, v :: vs, i + 1, x, hv, av, e => argv_at (as := as) (vs := vs) (by simpa using hv) av.2 (by simpa using e)
/-- the picked operands at hand -/
theorem arr_at {as : List Arg} {vs : List V} {dv : D → V} (av : ArgVs σ as vs) : ∀ {g : List (Nat ⊕ D)} {as' : List Arg} {l : List It1}, (∀ d, .inr d ∈ g → ∀ own hp, Dr T own hp d (dv d)) → At T B H ρ σ ((inls g).flatMap (itAt as vs) ++ l) → arr as g = some as' →
    ∃ vs', arrX dv vs g = some vs' ∧ At T B H ρ σ (argItsL as' vs' ++ l) ∧ ArgVs σ as' vs' ∧ ∀ i ∈ inls g, i < as.length
  | [], as', l, _, a, e => by
    injection e with e; subst e
    exact ⟨[], rfl, a, trivial, fun i h => by cases h⟩
  | .inl i :: r, as', l, hd, a, e => by
    rw [arr] at e
    cases e1 : as[i]? with
    | none => rw [e1] at e; cases e
    | some x =>
      cases e2 : arr as r with
      | none => rw [e1, e2] at e; cases e
      | some t =>
        rw [e1, e2] at e
        injection e with e; subst e
        have hi := (List.getElem?_eq_some_iff.mp e1).1
        have hv : i < vs.length := by rw [← av.len]; exact hi
        have e3 : itAt as vs i = argIts x vs[i] := by unfold itAt; rw [e1, List.getElem?_eq_getElem hv]
        have a1 : At T B H ρ σ ((inls r).flatMap (itAt as vs) ++ (argIts x vs[i] ++ l)) := a.perm (by
          show ((itAt as vs i ++ (inls r).flatMap (itAt as vs)) ++ l).Perm _
          rw [e3, List.append_assoc]
          exact swap_its)
        obtain ⟨vs', q1, q2, q3, q4⟩ := arr_at av (fun d hd' => hd d (List.mem_cons_of_mem _ hd')) a1 e2
        refine ⟨vs[i] :: vs', by rw [arrX, List.getElem?_eq_getElem hv, q1], q2.perm ?_, ⟨argv_at hv av e1, q3⟩, fun j hj => ?_⟩
        · show (argItsL t vs' ++ (argIts x vs[i] ++ l)).Perm ((argIts x vs[i] ++ argItsL t vs') ++ l)
          rw [List.append_assoc]
          exact swap_its
        · rcases List.mem_cons.mp hj with e | hj
          · rw [e]; exact hi
          · exact q4 j hj
  | .inr d :: r, as', l, hd, a, e => by
    rw [arr] at e
    obtain ⟨t, e2, e⟩ := Option.map_eq_some_iff.mp e
    subst e
    obtain ⟨vs', q1, q2, q3, q4⟩ := arr_at av (fun d hd' => hd d (List.mem_cons_of_mem _ hd')) a e2
    exact ⟨dv d :: vs', by rw [arrX, q1]; rfl, q2.lits (hd d List.mem_cons_self), ⟨trivial, q3⟩, q4⟩
theorem arr_in : ∀ {as as' : List Arg} {g : List (Nat ⊕ D)}, arr as g = some as' → ∀ i ∈ inls g, i < as.length
  | as, as', [], e, i, h => by cases h
  | as, as', .inl j :: r, e, i, h => by
    rw [arr] at e
    cases e1 : as[j]? with
    | none => rw [e1] at e; cases e
    | some x =>
      cases e2 : arr as r with
      | none => rw [e1, e2] at e; cases e
      | some t =>
        rcases List.mem_cons.mp h with e | h
        · rw [e]; exact (List.getElem?_eq_some_iff.mp e1).1
        · exact arr_in e2 i h
  | as, as', .inr d :: r, e, i, h => by
    rw [arr] at e
    obtain ⟨t, e2, e⟩ := Option.map_eq_some_iff.mp e
    exact arr_in e2 i h
theorem arr_at' {as as' : List Arg} {vs : List V} {dv : D → V} {g : List (Nat ⊕ D)} (nd : (inls g).Nodup) (hd : ∀ d, .inr d ∈ g → ∀ own hp, Dr T own hp d (dv d)) (a : At T B H ρ σ (argItsL as vs ++ l)) (av : ArgVs σ as vs) (e : arr as g = some as') :
    ∃ vs', arrX dv vs g = some vs' ∧ At T B H ρ σ (argItsL as' vs' ++ l) ∧ ArgVs σ as' vs' := by
  obtain ⟨R, p⟩ := perm_of_sub (L := List.range as.length) nd fun i hi => List.mem_range.mpr (arr_in e i hi)
  have a1 : At T B H ρ σ ((inls g).flatMap (itAt as vs) ++ (R.flatMap (itAt as vs) ++ l)) := a.perm (by
    rw [its_flat av.len, ← List.append_assoc]
    refine List.Perm.append_right l ((flatMap_perm _ p).trans ?_)
    rw [List.flatMap_append])
  obtain ⟨vs', q1, q2, q3, _⟩ := arr_at av hd a1 e
  exact ⟨vs', q1, (q2.perm swap_its).keepR, q3⟩
/-! ### how a call binds -/
/-- n values by place, the keywords ks: arranged by g, the defaults among them -/
structure BindG (K : PySem.W.Frag) (fd : FuncData) (ps : List Str) (n : Nat) (ks : List Str) (g : List (Nat ⊕ D)) (dv : D → V) : Prop where
  nd : (inls g).Nodup
  to : ∃ du : D → Value, (∀ d, .inr d ∈ g → RelV (dv d) (du d)) ∧ ∀ (s : Shared) (us ws zs : List Value), K.In s.heap → us.length = n → ws.length = ks.length → arrX du (us ++ ws) g = some zs → BindsTo s fd ⟨us, ks.zip ws⟩ (ps.zip zs)
theorem vals_arr {vs : List V} {us : List Value} {dv : D → V} {du : D → Value} {g : List (Nat ⊕ D)} {xs : List V} (r : Vals vs us) (hd : ∀ d, .inr d ∈ g → RelV (dv d) (du d)) (e : arrX dv vs g = some xs) : ∃ zs, arrX du us g = some zs ∧ Vals xs zs := by
  obtain ⟨zs, e1, e2, e3⟩ := arrX_two (R := RelV) r.length (fun i a b h1 h2 => by
    obtain ⟨u, hu, ru⟩ := r.get h1
    rw [h2] at hu
    injection hu with hu
    subst hu
    exact ru) hd e
  refine ⟨zs, e1, ?_⟩
  clear e e1
  induction xs generalizing zs with
  | nil =>
    cases zs with
    | nil => exact .nil
    | cons _ _ => simp at e2
  | cons x xs ih =>
    cases zs with
    | nil => simp at e2
    | cons z zs => exact .cons (e3 0 x z rfl rfl) (ih zs (by simpa using e2) fun i a b h1 h2 => e3 (i + 1) a b (by simpa using h1) (by simpa using h2))
theorem vals_split {vs : List V} {us ws : List Value} (r : Vals vs (us ++ ws)) : True := trivial
theorem run_fnG {k : Nat} {f : Addr} {fd : FuncData} {ps ks : List Str} {sp : Sp} {E : L2.St → XK} {g : List (Nat ⊕ D)} {dv : D → V} {n : Nat} {pins : List (Addr × Obj)} {s : Shared} {Q : VK} {us ws : List Value} {vs xs : List V} (F : FnOk X.prog X.w X.K X.mg X.base (L2.CX X.prog X.w) k f fd ps sp) (hr : Room k X.A) (hb : BindG X.K fd ps n ks g dv)
    (hx : PassesAt (L2.CX X.prog X.w) X σ (E σ)) (I : Inv X pins σ H s) (r : Vals vs (us ++ ws)) (l1 : us.length = n) (l2 : ws.length = ks.length) (e : arrX dv vs g = some xs) (h : sp xs H Q (E σ)) : wpAny (model X.prog X.w) X.A (call (.ref f) us (ks.zip ws)) (EP X pins σ Q) X.xe s := by
  obtain ⟨du, h1, h2⟩ := hb.to
  obtain ⟨zs, e1, r2⟩ := vals_arr r h1 e
  refine wpAny_call (codeAny_mono (F.run X.A X.stack s H ⟨us, ks.zip ws⟩ zs xs Q (E σ) hr I.env0 (h2 s us ws zs I.kIn l1 l2 e1) r2 h) fun r s' hq => ?_)
  cases r with
  | error e => exact hx pins H s e s' I hq
  | ok fl =>
    cases fl with
    | ret u => exact I.after hq
    | next => exact False.elim hq
    | brk => exact False.elim hq
    | cont => exact False.elim hq
/-! ### the arguments -/
theorem evAs_app : ∀ {a b : List SE} {ρ : Env}, evAs Φ (a ++ b) ρ = (evAs Φ a ρ).bind fun x ρ => (evAs Φ b ρ).bind fun y ρ => .ok (x ++ y) ρ
  | [], b, ρ => by
    rw [List.nil_append, evAs, Res.bind_ok]
    cases evAs Φ b ρ <;> rfl
  | e :: a, b, ρ => by
    rw [List.cons_append, evAs, evAs]
    cases evA Φ e ρ with
    | bad => rfl
    | exc C p ρ => rfl
    | ok x ρ1 =>
      simp only [Res.bind_ok]
      rw [evAs_app]
      cases evAs Φ a ρ1 with
      | bad => rfl
      | exc C p ρ => rfl
      | ok y ρ2 =>
        simp only [Res.bind_ok]
        cases evAs Φ b ρ2 <;> rfl
theorem evAs_len : ∀ {a : List SE} {ρ ρ' : Env} {as : List Arg}, evAs Φ a ρ = .ok as ρ' → as.length = a.length
  | [], ρ, ρ', as, e => by
    rw [evAs] at e
    injection e with e; subst e; rfl
  | x :: a, ρ, ρ', as, e => by
    rw [evAs] at e
    obtain ⟨b, ρ1, _, e⟩ := Res.bind_of e
    obtain ⟨bs, ρ2, e2, e⟩ := Res.bind_of e
    injection e with e; subst e
    simp [evAs_len e2]
theorem s_K0 : PK X [] (tAs T B Φ W []) := ⟨fun pos pins s σ H Q I ⟨ρ, l, a, h⟩ => pk_nil.run pos pins s σ H Q I (by
  rw [evAs] at h
  exact h [] H a trivial)⟩
theorem s_K1 {e : Expr} {se : SE} {ses : List SE} {kws : List Keyword} {nm : Option Str} {kp : Pos} (ha : PE X e (tA T B Φ W se)) (hs : PK X kws (tAs T B Φ W ses)) : PK X (⟨nm, e, kp⟩ :: kws) (tAs T B Φ W (se :: ses)) :=
  ⟨fun pos pins s σ H Q I ⟨ρ, l, a, h⟩ => (pk_cons ha hs).run pos pins s σ H Q I (by
    rw [evAs] at h
    refine ⟨ρ, l, a, h.bind.mono fun a ρ1 k v H1 a1 av => ⟨ρ1, argIts a v ++ l, a1, RG.more (k.bind.mono fun as ρ2 k2 vs H2 a2 avs => k2 (v :: vs) H2 ?_ ⟨av, avs⟩)⟩⟩
    refine a2.perm ?_
    show (argItsL as vs ++ (argIts a v ++ l)).Perm ((argIts a v ++ argItsL as vs) ++ l)
    rw [← List.append_assoc]
    exact List.perm_append_comm.append_right l)⟩
/-- how the items of a list stand ahead of the rest -/
def Plain1 (X : Cx) (es : List Expr) : Prop := match es with
  | [] => True
  | e :: es => starEach (e :: es) X.env = (false, eval e X.env) :: starEach es X.env
theorem args_run {es : List Expr} {kws : List Keyword} {sp sk : List SE} {ks : List Str} {pos : Pos} {f : Value} {first : List Value} {pins : List (Addr × Obj)} {s : Shared} {Q : VK} {K : List Arg → Env → Prop} (hp : PA X es (tAs T B Φ W sp)) (hk : PK X kws (tAs T B Φ W sk)) (kf : PySem.W.keepIn X.K f = true)
    (h0 : es = [] → sp = []) (h1 : Plain1 X es) (hall : (backToKw pos (keywordEach kws X.env)).all (·.1.isSome) = true) (hks : (backToKw pos (keywordEach kws X.env)).filterMap (·.1) = ks)
    (hpl : ((backTo pos (starEach es X.env)).any (·.1) || (backToKw pos (keywordEach kws X.env)).any (·.1.isNone)) = false)
    (I : Inv X pins σ H s) (a : At T B H ρ σ l) (h : RG T B W σ l (evAs Φ (sp ++ sk) ρ) K)
    (go : ∀ as ρ' us ws s1 vs H1, K as ρ' → Inv X pins σ H1 s1 → Vals vs (us ++ ws) → us.length = sp.length → ws.length = sk.length → At T B H1 ρ' σ (argItsL as vs ++ l) → ArgVs σ as vs → wpAny (model X.prog X.w) X.A (call f (first ++ us) (ks.zip ws)) (EP X pins σ Q) X.xe s1) :
    wpAny (model X.prog X.w) X.A (callWith pos f first (backTo pos (starEach es X.env)) (backToKw pos (keywordEach kws X.env))) (EP X pins σ Q) X.xe s := by
  rw [evAs_app] at h
  have h := h.bind.eq
  -- the keywords, behind the values by place
  have kw : ∀ (as : List Arg) (ρ1 : Env) (us : List Value) (vs : List V) (s1 : Shared) (H1 : Hp), evAs Φ sp ρ = .ok as ρ1 → RG T B W σ l ((evAs Φ sk ρ1).bind fun y ρ => .ok (as ++ y) ρ) K → Inv X pins σ H1 s1 → Vals vs us → At T B H1 ρ1 σ (argItsL as vs ++ l) → ArgVs σ as vs →
      wpAny (model X.prog X.w) X.A (evalAll ((backToKw pos (keywordEach kws X.env)).map (·.2))) (fun kv s₂ => X.K.In s₂.heap ∧ wpAny (model X.prog X.w) X.A (call f (first ++ us) (((backToKw pos (keywordEach kws X.env)).filterMap (·.1)).zip kv)) (EP X pins σ Q) X.xe s₂) X.xe s1 := by
    intro as ρ1 us vs s1 H1 ea h I1 r a1 av
    rw [hks]
    refine thn (hk.run pos pins s1 σ H1 (fun ws H2 => ∃ bs ρ2, K (as ++ bs) ρ2 ∧ At T B H2 ρ2 σ (argItsL bs ws ++ (argItsL as vs ++ l)) ∧ ArgVs σ bs ws ∧ bs.length = sk.length) I1 ⟨ρ1, argItsL as vs ++ l, a1, RG.more (h.bind.eq.mono fun bs ρ2 ⟨eb, k⟩ ws H2 a2 bv => ⟨bs, ρ2, k, a2, bv, evAs_len eb⟩)⟩) fun ws' s2 ⟨zs, H2, I2, rz, bs, ρ2, k, a2, bv, lb⟩ => ⟨I2.kIn, ?_⟩
    refine go (as ++ bs) ρ2 us ws' s2 (vs ++ zs) H2 k I2 (r.append rz) ?_ ?_ (a2.perm ?_) ?_
    · rw [← r.length, ← av.len, evAs_len ea]
    · rw [← rz.length, ← bv.len, lb]
    · have : ∀ {as : List Arg} {vs : List V} {bs : List Arg} {zs : List V}, as.length = vs.length → argItsL (as ++ bs) (vs ++ zs) = argItsL as vs ++ argItsL bs zs := by
        intro as
        induction as with
        | nil => intro vs bs zs hl; cases vs with
          | nil => rfl
          | cons _ _ => simp at hl
        | cons a as ih => intro vs bs zs hl; cases vs with
          | nil => simp at hl
          | cons v vs => show argIts a v ++ argItsL (as ++ bs) (vs ++ zs) = _; rw [ih (by simpa using hl)]; show _ = (argIts a v ++ argItsL as vs) ++ _; rw [List.append_assoc]
      rw [this av.len, List.append_assoc]
      exact swap_its
    · have : ∀ {as : List Arg} {vs : List V}, ArgVs σ as vs → ArgVs σ (as ++ bs) (vs ++ zs) := by
        intro as
        induction as with
        | nil => intro vs h; cases vs with
          | nil => exact bv
          | cons _ _ => exact h.elim
        | cons a as ih => intro vs h; cases vs with
          | nil => exact h.elim
          | cons v vs => exact ⟨h.1, ih h.2⟩
      exact this av
  cases es with
  | nil =>
    have e0 := h0 rfl
    subst e0
    rw [evAs] at h
    exact PySem.W.callWith_KW0 (h₀ := X.base) I.ok.mod.kin kf hall (kw [] ρ [] [] s H (by rw [evAs]) h.2 I .nil a trivial) hpl
  | cons e es =>
    refine PySem.W.callWith_KW (h₀ := X.base) I.ok.mod.kin kf hall (thn (hp.run pos pins s σ H (fun vs H1 => ∃ as ρ1, evAs Φ sp ρ = .ok as ρ1 ∧ RG T B W σ l ((evAs Φ sk ρ1).bind fun y ρ => Res.ok (as ++ y) ρ) K ∧ At T B H1 ρ1 σ (argItsL as vs ++ l) ∧ ArgVs σ as vs) I ⟨ρ, l, a, h.mono fun as ρ1 ⟨ea, k⟩ vs H1 a1 av => ⟨as, ρ1, ea, k, a1, av⟩⟩) fun us s1 q => ?_) hpl h1
    obtain ⟨vs, H1, I1, r, as, ρ1, ea, k, a1, av⟩ := q
    exact kw as ρ1 us vs s1 H1 ea k I1 r a1 av
end
end PV
/-! PV22: calls, methods, made objects, properties -/
namespace PV
open PySem PySem.Spec PyProof.Rows L2
section
variable {T : Tab} {B : Base} {Φ : Phi} {W W' : WX} {X : Cx} {σ : L2.St} {l : List It1} {H : Hp} {ρ : Env}
theorem RG.anyW {α : Type} {r : Res α} {K : α → Env → Prop} (h : RG T B W σ l r.noX K) : RG T B W' σ l r.noX K := by cases r <;> exact h
theorem arg_sat {y : Arg} {v : V} {o : O} (a : At T B H ρ σ (argIts y v ++ l)) (av : ArgV σ y v) (e : argO y ρ = some o) : ∃ m, Sat T B H ((o, v) :: m) := by
  cases y with
  | val o' =>
    have e : some o' = some o := e
    injection e with e
    subst e
    exact ⟨_, SatH.perm (m := (o', v) :: (envIts ρ σ ++ l)) a.sat List.perm_middle⟩
  | slot j =>
    have av : σ[j]? = some (some v) := av
    exact ⟨_, SatH.perm (a.take e av).sat List.perm_middle⟩
theorem objC_of {C : Nat} {d : D} {u : Unit} (e : objC C d = some u) : ∃ ns xs, d = .obj C ns xs := by
  cases d with
  | obj C' ns xs =>
    have e : (if C' = C then some () else none) = some u := e
    by_cases h : C' = C
    · subst h; exact ⟨ns, xs, rfl⟩
    · rw [if_neg h] at e; cases e
  | _ => cases e
theorem objM_of {C : Nat} {f : Str} {d : D} {u : Unit} (e : objM C f d = some u) : ∃ ns xs, d = .obj C ns xs ∧ f ∉ ns := by
  cases d with
  | obj C' ns xs =>
    have e : (if C' = C ∧ f ∉ ns then some () else none) = some u := e
    by_cases h : C' = C ∧ f ∉ ns
    · obtain ⟨h1, h2⟩ := h; subst h1; exact ⟨ns, xs, rfl, h2⟩
    · rw [if_neg h] at e; cases e
  | _ => cases e
theorem lookup_zip_none {f : Str} : ∀ {ns : List Str} {vs : List V}, f ∉ ns → (ns.zip vs).lookup f = none
  | [], vs, _ => by simp
  | n :: ns, [], _ => by simp
  | n :: ns, v :: vs, h => by
    have h1 : f ≠ n := fun e => h (by rw [e]; exact List.mem_cons_self)
    have h2 : (f == n) = false := by simpa using h1
    show (List.lookup f ((n, v) :: ns.zip vs)) = none
    rw [List.lookup_cons, h2]
    exact lookup_zip_none fun z => h (List.mem_cons_of_mem _ z)
/-- an operand that is an object -/
theorem arg_obj {y : Arg} {v : V} {o : O} {C : Nat} {ns : List Str} {xs : List D} (a : At T B H ρ σ (argIts y v ++ l)) (av : ArgV σ y v) (e : argO y ρ = some o) (eo : o.frz = .obj C ns xs) : ∃ a dx vs, v = .ref a ∧ H a = some (.ins (T.cls C) dx (ns.zip vs)) := by
  obtain ⟨m, s⟩ := arg_sat a av e
  obtain ⟨b, dx, vs, h1, h2, _⟩ := Sat.kidsO s eo
  exact ⟨b, dx, vs, h1, h2⟩
theorem argO_keep {y : Arg} {v : V} {o : O} {as : List Arg} : True := trivial
theorem call_ofN {run : List O → FRes} {n : Nat} {as : List Arg} {vs : List V} {Q : VK} {E : XK} (h : RG T B W σ l (callR ⟨n, run⟩ as ρ).noX fun o ρ => ∀ v H, At T B H ρ σ ((o, v) :: l) → Q v H)
    (a : At T B H ρ σ (argItsL as vs ++ l)) (av : ArgVs σ as vs) : spOf T run vs H Q E := call_of (W := fun cls d _ H => E cls d H) (h.anyW.unX) a av
section
variable {k fi n : Nat} {f : Addr} {fd : FuncData} {ps ks : List Str} {run : List O → FRes} {g : List (Nat ⊕ D)} {dv : D → V} {x : Str} {p pos apos : Pos} {e o : Expr} {es : List Expr} {kws : List Keyword} {sp sk : List SE} {sa sb : SE} {C : Nat} {m : Str}
theorem s_callA (F : FnOk X.prog X.w X.K X.mg X.base (L2.CX X.prog X.w) k f fd ps (spOf T run)) (hΦ : Φ fi = ⟨n, run⟩) (hr : Room k X.A) (hb : BindG X.K fd ps sp.length ks g dv) (hdv : ∀ d, .inr d ∈ g → ∀ own hp, Dr T own hp d (dv d)) (hlen : sk.length = ks.length)
    (hg : Gl X x) (hm : X.mg x = some (.ref f)) (hk : PySem.W.keepIn X.K (.ref f) = true) (tk : Takes X W) (hp : PA X es (tAs T B Φ W sp)) (hkw : PK X kws (tAs T B Φ W sk)) (h0 : es = [] → sp = []) (h1 : Plain1 X es)
    (hall : (backToKw pos (keywordEach kws X.env)).all (·.1.isSome) = true) (hks : (backToKw pos (keywordEach kws X.env)).filterMap (·.1) = ks) (hpl : ((backTo pos (starEach es X.env)).any (·.1) || (backToKw pos (keywordEach kws X.env)).any (·.1.isNone)) = false)
    (hdb : (x == ("__debug__" : Str)) = false) : PE X (.Call (.Name x p) es kws pos) (tE T B Φ W (.callp fi (sp ++ sk) g)) := by
  refine ⟨fun pins s σ H Q I ⟨ρ, l, a, h⟩ => ?_⟩
  rw [ev, hΦ] at h
  have h := h.rg.bind
  refine wpAny_Call_Name_kw (ld_glob I hg hm ?_ hdb)
  refine args_run hp hkw hk h0 h1 hall hks hpl I a h fun as ρ' us ws s1 vs H1 kk I1 r l1 l2 a1 av => ?_
  obtain ⟨as', e, kk⟩ := kk.bnd
  obtain ⟨xs, e1, a2, av2⟩ := arr_at' hb.nd hdv a1 av e
  exact run_fnG (E := WE W) F hr hb (passAt tk σ) I1 r l1 (l2.trans hlen) e1 (call_of kk a2 av2)
theorem s_methA {pl : Sem Bool} (c : Cls X.K (T.cls C)) (hm : Meth X.K (T.cls C) m f) (F : FnOk X.prog X.w X.K X.mg X.base (L2.CX X.prog X.w) k f fd ps (spOf T run)) (hΦ : Φ fi = ⟨n, run⟩) (hr : Room k X.A) (hb : BindG X.K fd ps (sp.length + 1) ks g dv) (hdv : ∀ d, .inr d ∈ g → ∀ own hp, Dr T own hp d (dv d)) (hlen : sk.length = ks.length)
    (tk : Takes X W) (he : PE X o (tA T B Φ W sa)) (hp : PA X es (tAs T B Φ W sp)) (hkw : PK X kws (tAs T B Φ W sk)) (h0 : es = [] → sp = []) (h1 : Plain1 X es)
    (hall : (backToKw pos (keywordEach kws X.env)).all (·.1.isSome) = true) (hks : (backToKw pos (keywordEach kws X.env)).filterMap (·.1) = ks) (hpl : ((backTo pos (starEach es X.env)).any (·.1) || (backToKw pos (keywordEach kws X.env)).any (·.1.isNone)) = false)
    (ht : eval (.Call (.Attribute o m apos) es kws pos) X.env = (do
      let ov ← eval o X.env
      standAt apos.atName
      let (f, first) ← holding [ov] (getMethod ov m pl)
      callWith pos f first (backTo pos (starEach es X.env)) (backToKw pos (keywordEach kws X.env)))) : PE X (.Call (.Attribute o m apos) es kws pos) (tE T B Φ W (.meth C m fi sa (sp ++ sk) g)) := by
  refine ⟨fun pins s σ H Q I ⟨ρ, l, a, h⟩ => ?_⟩
  rw [ev, hΦ] at h
  have h := h.rg.bind
  refine PySem.W.methodCall_KW (pl := pl) (thn (he.run pins s σ H (fun v H1 => ∃ y ρ1, RG T B W σ l (bnd (argO y ρ1) fun o => bnd (objM C m o.frz) fun _ => (evAs Φ (sp ++ sk) ρ1).bind fun as ρ => bnd (arr (y :: as) g) fun as => callR ⟨n, run⟩ as ρ) (fun o ρ => ∀ v H, At T B H ρ σ ((o, v) :: l) → Q v H) ∧ At T B H1 ρ1 σ (argIts y v ++ l) ∧ ArgV σ y v) I ⟨ρ, l, a, h.mono fun y ρ1 k v H1 a1 av => ⟨y, ρ1, k, a1, av⟩⟩) fun u s1 hq => ?_) ht
  obtain ⟨v, H1, I1, rx, y, ρ1, kk, a1, av⟩ := hq
  obtain ⟨o', eo, kk⟩ := kk.bnd
  obtain ⟨_, em, kk⟩ := kk.bnd
  obtain ⟨ns, xs, ef, nf⟩ := objM_of em
  obtain ⟨b, dx, ws, rfl, ea⟩ := arg_obj a1 av eo ef
  obtain rfl : u = Value.ref b := rx
  refine getmeth_ok I1 ea c hm (lookup_zip_none nf) ?_
  have kk := RG.more (m := argIts y (.ref b)) kk.bind
  refine args_run hp hkw hm.kp h0 h1 hall hks hpl I1 a1 kk fun as ρ' us ws s2 vs H2 kk I2 r l1 l2 a2 av2 => ?_
  obtain ⟨as', e, kk⟩ := kk.bnd
  have a3 : At T B H2 ρ' σ (argItsL (y :: as) (.ref b :: vs) ++ l) := a2.perm (by
    show (argItsL as vs ++ (argIts y (.ref b) ++ l)).Perm ((argIts y (.ref b) ++ argItsL as vs) ++ l)
    rw [List.append_assoc]
    exact swap_its)
  obtain ⟨xs, e1, a4, av4⟩ := arr_at' hb.nd hdv a3 ⟨av, av2⟩ e
  refine run_fnG (E := WE W) (us := .ref b :: us) (vs := .ref b :: vs) F hr hb (passAt tk σ) I2 (.cons rfl r) (by simp [l1]) (l2.trans hlen) e1 (call_of (n := n) ?_ a4 av4)
  exact kk
end
end
end PV
/-! PV23: objects made, properties, own len, in, ==, != -/
namespace PV
open PySem PySem.Spec PyProof.Rows L2
section
variable {prog : Program} {w : World} {A : Around} {E : Value → Shared → Prop} {s : Shared} {K : PySem.W.Frag} {x C L f : Addr} {h₀ : Heap} {m : Str → Option Value} {ox : Obj} {od : Option Obj} {b tb : Value}
/-- != of an object whose class has an own == alone -/
theorem ne_K {Q : Value → Shared → Prop} (hu : A.units < cLine) (hu1 : A.in1.units < cLine) (Fm : Fr h₀ L s.heap m) (X₀ : K.In h₀) (I : PySem.W.InstAt s.heap x ox C od) (hb : PySem.W.Looks (model prog w) s.heap (typeOf b) tb) (hn : PySem.W.notFirst K C tb = true)
    (hs : PySem.W.findIn K (.ref C) "__ne__" = some (some (.builtin "object.__ne__"))) (he : PySem.W.findIn K (.ref C) "__eq__" = some (some (.ref f))) (hf : PySem.W.isFn K (.ref f) = true) (hm : PySem.W.mroIn K C (.type "object") = some true)
    (h : wpAny (model prog w) A.in1 (call (.ref f) [.ref x, b]) (fun v s' => ∃ c, v = .bool c ∧ Q (.bool (!c)) s') E s) : wpAny (model prog w) A (richCompare .NotEq (.ref x) b) Q E s := by
  have X := X₀.keeps Fm.keep
  have one : wpAny (model prog w) A (tryCompare (.ref x) (cmpInfo .NotEq).2.1 b) (fun r s' => ∃ v, r = some v ∧ Q v s') E s := by
    unfold tryCompare
    refine wpAny_bind (NtL.csib (id := "object.__ne__") (I.type.andThen (PySem.W.looks_findIn X hs)) rfl ?_)
    refine wpAny_call (codeAny_call_builtin (by decide +kernel) F.cmpEntry_ne ?_)
    refine @PySem.W.check_slot (model prog w) _ _ _ "object.__ne__" "object" "__ne__" (.ref x) [b] [] _ F.cmpKind_ne F.cmpSplit_ne ?_ (F.cmpArgs_ne _ _) ?_
    · unfold isInstance
      exact I.type.andThen (PySem.W.looks_mroIn X hm)
    · unfold Builtin.«object.__ne__»
      refine wpAny_bind (wpAny_pure ?_)
      refine wpAny_bind (wpAny_cRoomFor hu1 ?_)
      refine wpAny_bind (m := callSpecialIfBound? (.ref x) (Str.ofString "__eq__") [b]) (PySem.W.ifBound_K X I he hf (wpAny_mono h (fun v s' hv => ?_) fun _ _ z => z))
      obtain ⟨c, rfl, q⟩ := hv
      refine wpAny_bind (m := truthy (.bool c)) (wpAny_truthy_bool ?_)
      exact wpAny_pure (wpAny_pure ⟨_, rfl, q⟩)
  unfold richCompare
  simp only [oneThing_ref]
  refine wpAny_holding (wpAny_bind (wpAny_cRoomFor hu ?_))
  refine wpAny_bind (I.type.here (wpAny_bind (hb.here ?_)))
  split
  · rename_i q
    have e : PySem.W.subIn K tb (.ref C) = some false := by
      rcases Bool.or_eq_true_iff.mp hn with e | e
      · rw [beq_iff_eq.mp e] at q; simp at q
      · exact beq_iff_eq.mp e
    refine wpAny_bind ((PySem.W.looks_subIn X e).here ?_)
    simp only [Bool.false_eq_true, if_false]
    refine wpAny_bind (wpAny_mono one (fun r s' z => ?_) fun _ _ e => e)
    obtain ⟨v, rfl, hq⟩ := z
    exact wpAny_pure hq
  · refine wpAny_bind (wpAny_pure ?_)
    simp only [Bool.false_eq_true, if_false]
    refine wpAny_bind (wpAny_mono one (fun r s' z => ?_) fun _ _ e => e)
    obtain ⟨v, rfl, hq⟩ := z
    exact wpAny_pure hq
end
theorem rel_ref (b : Addr) : L2.RelV (V.ref b) (Value.ref b) := rfl
/-! ### types -/
structure ClsI (K : PySem.W.Frag) (C : Addr) : Prop where
  cl : Cls K C
  ha : PySem.W.findIn K (.ref C) "__class__" = some (some (.builtin "object.__class__"))
  hn : PySem.W.specialIn K (.builtin "object.__class__") "__get__" = some (some (.builtin "getset_descriptor.__get__"))
  htk : PySem.W.takesIn K (.builtin "object.__class__") = some true
  hm : PySem.W.mroIn K C (.type "object") = some true
def tyV (T : Tab) : D → Value
  | .non => .type "NoneType"
  | .bl _ => .type "bool"
  | .int _ => .type "int"
  | .str _ => .type "str"
  | .tup _ => .type "tuple"
  | .lst _ => .type "list"
  | .dic _ _ => .type "dict"
  | .obj C _ _ => .ref (T.cls C)
  | .exc C _ => .ref (T.cls C)
section
variable {T : Tab} {B : Base} {Φ : Phi} {W : WX} {X : Cx} {σ : L2.St} {l m : List It1} {H : Hp} {ρ : Env} {pins : List (Addr × Obj)} {s : Shared} {o : O} {v : V} {u : Value} {hs : List Addr}
theorem kit_pv (hK : X.K = T.K) (I : Inv X pins σ H s) (r : RelV v u) (sa : SatH T B H hs ((o, v) :: m)) (hC : ∀ C ns xs, o.frz = .obj C ns xs → ClsI X.K (T.cls C)) : ∃ P : Heap → Prop, PySem.W.KitX X.K u (tyV T o.frz) P ∧ P s.heap ∧ u ≠ .builtin "__main__.__loader__#opaque" := by
  have d := sa.read
  cases ea : o.frz with
  | non => rw [ea] at d; cases d; cases (show u = Value.none from r); exact ⟨_, PySem.W.kitx_none, True.intro, fun z => nomatch z⟩
  | bl y => rw [ea] at d; cases d; cases (show u = Value.bool y from r); exact ⟨_, PySem.W.kitx_bool, True.intro, fun z => nomatch z⟩
  | int i => rw [ea] at d; cases d; obtain ⟨t, q⟩ := (show ∃ t, u = Value.int i t from r); cases q; exact ⟨_, PySem.W.kitx_int, True.intro, fun z => nomatch z⟩
  | str y => rw [ea] at d; cases d; obtain ⟨t, q⟩ := (show ∃ t, u = Value.str y t from r); cases q; exact ⟨_, PySem.W.kitx_str, True.intro, fun z => nomatch z⟩
  | tup xs =>
    obtain ⟨a, vs, rfl, ha, _⟩ := Sat.kidsT sa ea
    cases (show u = Value.ref a from r)
    obtain ⟨its, _, ⟨o1, h1, h2, _⟩, _⟩ := I.tuple (by rw [hK]; exact ha)
    exact ⟨_, PySem.W.kitx_tuple, ⟨o1, h1, h2⟩, fun z => nomatch z⟩
  | lst xs =>
    obtain ⟨a, vs, rfl, ha, _⟩ := Sat.kidsL sa ea
    cases (show u = Value.ref a from r)
    obtain ⟨its, _, ⟨o1, n, h1, h2, _⟩, _⟩ := I.list (by rw [hK]; exact ha)
    exact ⟨_, PySem.W.kitx_list, ⟨o1, h1, h2⟩, fun z => nomatch z⟩
  | dic ks xs =>
    rw [ea] at d
    obtain ⟨a, ws, rfl, dr, _⟩ := drDic sa d
    cases (show u = Value.ref a from r)
    have : ∃ o : Obj, s.heap.get? a = some o ∧ o.cls = .type "dict" := by
      rcases dr with ⟨js, _, q, _⟩ | ⟨js, _, q, _⟩
      · rcases q with q | ⟨ob, q⟩
        · obtain ⟨_, _, vs, _, o, es, ep, h1, h2, _⟩ := (show ObjOk X.prog X.w H s.heap a (.dK _) from I.hok a _ q)
          exact ⟨o, h1, h2.1⟩
        · obtain ⟨_, _, _, vs, _, o, es, ep, h1, h2, _⟩ := (show ObjOk X.prog X.w H s.heap a (.frz ob (.dK _)) from I.hok a _ q)
          exact ⟨o, h1, h2.1⟩
      · rcases q with q | ⟨ob, q⟩
        · obtain ⟨_, _, xs, _, o, es, ep, h1, h2, _⟩ := (show ObjOk X.prog X.w H s.heap a (.dT _) from I.hok a _ q)
          exact ⟨o, h1, h2.1⟩
        · obtain ⟨_, _, _, xs, _, o, es, ep, h1, h2, _⟩ := (show ObjOk X.prog X.w H s.heap a (.frz ob (.dT _)) from I.hok a _ q)
          exact ⟨o, h1, h2.1⟩
    obtain ⟨o, h1, h2⟩ := this
    exact ⟨_, PySem.W.kitx_dict, ⟨o, h1, h2⟩, fun z => nomatch z⟩
  | obj C ns xs =>
    obtain ⟨a, dx, vs, rfl, h, _⟩ := Sat.kidsO sa ea
    cases (show u = Value.ref a from r)
    obtain ⟨mA, O, _⟩ := ins_get I.hok h
    obtain ⟨od, J, _⟩ := O.look
    have c := hC C ns xs ea
    exact ⟨_, PySem.W.kitx_own (c.cl.get _) c.cl.hd c.ha c.hn c.htk c.hm, J, fun z => nomatch z⟩
  | exc C p => rw [ea] at d; exact d.elim
theorem typ_pv (hK : X.K = T.K) (I : Inv X pins σ H s) (r : RelV v u) (sa : SatH T B H hs ((o, v) :: m)) (hC : ∀ C ns xs, o.frz = .obj C ns xs → ClsI X.K (T.cls C)) : PySem.W.Looks (model X.prog X.w) s.heap (typeOf u) (tyV T o.frz) := by
  obtain ⟨P, k, p, _⟩ := kit_pv hK I r sa hC
  exact k.ty _ _ I.kIn p
/-! ### own methods by name: the call -/
theorem run_meth {k : Nat} {f : Addr} {fd : FuncData} {ps : List Str} {run : List O → FRes} {vs : List V} {us : List Value} {Q : VK} {A : Around} {e : Value → Shared → Prop} (F : FnOk X.prog X.w X.K X.mg X.base (L2.CX X.prog X.w) k f fd ps (spOf T run)) (hr : Room k A) (hfr : A.frames = X.A.frames) (hb : Binds X.K fd ps [])
    (I : Inv X pins σ H s) (r : Vals vs us) (h : spOf T run vs H Q (fun _ _ _ => False)) : wpAny (model X.prog X.w) A (call (.ref f) us) (EP X pins σ Q) e s := by
  have hl : us.length = ps.length := by rw [← r.length]; exact F.len _ _ _ _ h
  have b := hb s us I.kIn (by simpa using hl)
  rw [List.append_nil] at b
  have e0 : Env0 X.prog X.w X.K X.mg X.base A X.stack s H := by
    have e := I.env0
    exact ⟨by rw [hfr]; exact e.frames, e.mod, e.bs, e.bsz, e.funs, e.frf, e.hok, e.bare⟩
  refine wpAny_call (codeAny_mono (F.run A X.stack s H ⟨us, []⟩ us vs Q _ hr e0 b r h) fun r s' hq => ?_)
  cases r with
  | error e =>
    obtain ⟨_, _, _, _, _, _, _, _, _, _, _, _, z⟩ := hq
    exact z.elim
  | ok fl =>
    cases fl with
    | ret u => exact I.after hq
    | next => exact False.elim hq
    | brk => exact False.elim hq
    | cont => exact False.elim hq
section
variable {k fi n : Nat} {f g : Addr} {fd : FuncData} {ps : List Str} {run : List O → FRes} {x : Str} {p pos apos : Pos} {e e1 e2 : Expr} {sa sb : SE} {C : Nat}
/-- o.f, a property -/
theorem s_prop (c : Cls X.K (T.cls C)) {q : Addr} (hp : PropOf X.K (T.cls C) x q f) (F : FnOk X.prog X.w X.K X.mg X.base (L2.CX X.prog X.w) k f fd ps (spOf T run)) (hΦ : Φ fi = ⟨n, run⟩) (hr : Room (k + 1) X.A) (hb : Binds X.K fd ps []) (he : PE X e (tA T B Φ W sa))
    (hab : attributeBase e x X.env (eval e X.env) = eval e X.env) : PE X (.Attribute e x pos) (tE T B Φ W (.prop C x fi sa)) := by
  refine (pe_prop (sp := spOf T run) (dvs := []) (E := fun _ _ _ => False) he c hp F hr hb .nil (fun pins σ H s e s' I z => ?_) hab).pv fun σ H Q ⟨ρ, l, a, h⟩ => ?_
  · obtain ⟨_, _, _, _, _, _, _, _, _, _, _, _, z⟩ := z
    exact z.elim
  · rw [ev, hΦ] at h
    refine ⟨ρ, l, a, h.rg.bind.mono fun y ρ1 k v H1 a1 av => ?_⟩
    obtain ⟨o, eo, k⟩ := k.bnd
    obtain ⟨_, em, k⟩ := k.bnd
    obtain ⟨ns, xs, ef⟩ := objC_of em
    obtain ⟨b, dx, ws, rfl, ea⟩ := arg_obj a1 av eo ef
    exact ⟨b, dx, _, rfl, ea, call_ofN (as := [y]) (vs := [.ref b]) k (a1.perm one_its) ⟨av, trivial⟩⟩
/-- an own method under a builtin: the object and what is known behind -/
theorem lenO_of {o r : O} (e : lenO o = some r) : ∃ n : Int, o = .d (.int n) ∧ 0 ≤ n ∧ n < 2 ^ 63 ∧ r = .d (.int n) := by
  cases o with
  | d x =>
    cases x with
    | int i =>
      have e : (if 0 ≤ i ∧ i < 2 ^ 63 then some (O.d (.int i)) else none) = some r := e
      by_cases h : 0 ≤ i ∧ i < 2 ^ 63
      · rw [if_pos h] at e
        injection e with e
        exact ⟨i, rfl, h.1, h.2, e.symm⟩
      · rw [if_neg h] at e; cases e
    | _ => cases e
  | _ => cases e
theorem notO_of {neg : Bool} {o r : O} (e : notO neg o = some r) : ∃ b : Bool, o = .d (.bl b) ∧ r = .d (.bl (if neg then !b else b)) := by
  cases o with
  | d x =>
    cases x with
    | bl b => injection e with e; exact ⟨b, rfl, e.symm⟩
    | _ => cases e
  | _ => cases e
theorem RG.noXok {α β : Type} {r : Res α} {f : α → Env → Res β} {K : β → Env → Prop} (h : RG T B W σ l (r.noX.bind f) K) : RG T B W σ l r.noX fun a ρ => RG T B W σ l (f a ρ) K := h.bind
theorem cr_ownLen (hr : Room (k + 1) X.A) (F : FnOk X.prog X.w X.K X.mg X.base (L2.CX X.prog X.w) k f fd ps (spOf T run)) (hb : Binds X.K fd ps []) (hs : PySem.W.findIn X.K (.ref (T.cls C)) "__len__" = some (some (.ref f))) (hf : PySem.W.isFn X.K (.ref f) = true) :
    CallR X (.builtin "len") (fun xs H Q => ∃ b dx fs, xs = [.ref b] ∧ H b = some (.ins (T.cls C) dx fs) ∧ spOf T run [.ref b] H (fun v H' => ∃ n : Int, v = .int n ∧ 0 ≤ n ∧ n < 2 ^ 63 ∧ Q (.int n) H') (fun _ _ _ => False)) := by
  intro pins s σ H xs us Q I r h
  obtain ⟨b, dx, fs, rfl, ea, h⟩ := h
  cases r with
  | cons r1 rn =>
    cases rn
    rename_i u
    cases (show u = Value.ref b from r1)
    obtain ⟨mA, O, _⟩ := ins_get I.hok ea
    obtain ⟨od, J, _⟩ := O.look
    obtain ⟨m, hF⟩ := I.fr
    refine PySem.W.len_K hF I.ok.mod.kin J hs hf (wpAny_mono (run_meth (A := X.A.in1) F hr.in1 rfl hb I (.cons (rel_ref b) .nil) h) (fun v s' hv => ?_) fun _ _ z => z)
    obtain ⟨v', H', I', rv, n, rfl, h0, h1, q⟩ := hv
    obtain ⟨t, rfl⟩ := (show ∃ t, v = Value.int n t from rv)
    exact ⟨⟨h0, h1⟩, .int n, H', I'.tok _, ⟨_, rfl⟩, q⟩
theorem s_dlen (hr : Room (k + 1) X.A) (F : FnOk X.prog X.w X.K X.mg X.base (L2.CX X.prog X.w) k f fd ps (spOf T run)) (hΦ : Φ fi = ⟨n, run⟩) (hb : Binds X.K fd ps []) (hs : PySem.W.findIn X.K (.ref (T.cls C)) "__len__" = some (some (.ref f))) (hf : PySem.W.isFn X.K (.ref f) = true)
    (hg : Gl X "len") (hm : X.mg "len" = none) (he : PE X e (tA T B Φ W sa)) (hst : starEach [e] X.env = (false, eval e X.env) :: starEach [] X.env) (hpl : (backTo pos (starEach [] X.env)).any (·.1) = false) :
    PE X (.Call (.Name "len" p) [e] [] pos) (tE T B Φ W (.dlen C fi sa)) :=
  (pe_callB (cr_ownLen (T := T) (C := C) hr F hb hs hf) hg hm boot_len (pa_cons he pa_nil hst) (by decide) (by decide) hst hpl).pv fun σ H Q ⟨ρ, l, a, h⟩ => by
    rw [ev, hΦ] at h
    refine ⟨ρ, l, a, h.rg.bind.mono fun y ρ1 k v H1 a1 av => ?_⟩
    obtain ⟨o, eo, k⟩ := k.bnd
    obtain ⟨_, em, k⟩ := k.bnd
    obtain ⟨ns, xs, ef⟩ := objC_of em
    obtain ⟨b, dx, ws, rfl, ea⟩ := arg_obj a1 av eo ef
    refine ⟨b, dx, _, rfl, ea, call_ofN (as := [y]) (vs := [.ref b]) (k.noXok.mono fun o ρ2 k2 v H2 a2 => ?_) (a1.perm one_its) ⟨av, trivial⟩⟩
    obtain ⟨r, er, k2⟩ := k2.bnd
    obtain ⟨n, rfl, h0, h1, rfl⟩ := lenO_of er
    have := (SatH.perm a2.sat List.perm_middle).read
    have : v = .int n := this
    subst this
    exact ⟨n, rfl, h0, h1, k2 _ H2 a2⟩
/-- a comparison by its operator's rule -/
structure CmpR (T : Tab) (B : Base) (Φ : Phi) (W : WX) (X : Cx) (a : Expr) (op : CmpOp) (b : Expr) (se : SE) : Prop where
  ex : ∃ (r : R2) (ta tb : TE), OpR X (compareOp op) r ∧ PE X a ta ∧ PE X b tb ∧ ∀ σ H Q, tE T B Φ W se σ H Q → tOp r ta tb σ H Q
theorem s_cv {op : CmpOp} {a b : Expr} {se : SE} {pos : Pos} (h : CmpR T B Φ W X a op b se) (hm : behindInMarks op b = false) : PE X (.Compare a [op] [b] pos) (tE T B Φ W se) := by
  obtain ⟨r, ta, tb, h1, h2, h3, h4⟩ := h.ex
  exact (pe_cmpR h1 h2 h3 hm).pv h4
/-- it gives True or False, and is asked for as a value -/
def BoolSE (Φ : Phi) (se : SE) : Prop := (∀ ρ o ρ', ev Φ se ρ = .ok o ρ' → ∃ b, o = .d (.bl b)) ∧ ∀ ρ, evC Φ se ρ = (ev Φ se ρ).bind fun o ρ => (Res.of (truD o.frz) ρ).bind fun b ρ => .ok b ρ
theorem test_of {se : SE} (hb : BoolSE Φ se) {Q : Bool → Hp → Prop} (h : tT T B Φ W se σ H Q) : tE T B Φ W se σ H (fun v H' => ∃ k, v = .bl k ∧ Q k H') := by
  obtain ⟨ρ, l, a, h⟩ := h
  rw [hb.2] at h
  refine ⟨ρ, l, a, RG.rp (h.bind.eq.mono fun o ρ1 k v H1 a1 => ?_)⟩
  obtain ⟨e, k⟩ := k
  obtain ⟨b, rfl⟩ := hb.1 _ _ _ e
  have k : ∀ H', At T B H' ρ1 σ l → Q b H' := k
  exact ⟨b, a1.bl1, k H1 a1.drop⟩
theorem s_ct {op : CmpOp} {a b : Expr} {se : SE} {pos : Pos} (hb : BoolSE Φ se) (h : CmpR T B Φ W X a op b se) (hm : behindInMarks op b = false) : PT X (.Compare a [op] [b] pos) (tT T B Φ W se) := by
  obtain ⟨r, ta, tb, h1, h2, h3, h4⟩ := h.ex
  exact (pt_cmpR h1 h2 h3 hm).pv fun σ H Q h => h4 σ H _ (test_of hb h)
theorem bnd_bl {α : Type} {f : α → Option O} {o : O} {ρ ρ' : Env} {x : Option α} : True := trivial
theorem Res.bnd_of {α β : Type} {o : Option α} {f : α → Res β} {b : β} {ρ' : Env} (h : bnd o f = .ok b ρ') : ∃ a, o = some a ∧ f a = .ok b ρ' := by
  cases o with
  | none => cases h
  | some a => exact ⟨a, rfl, h⟩
theorem b_din {neg : Bool} {C f : Nat} {a b : SE} : BoolSE Φ (.din neg C f a b) := by
  refine ⟨fun ρ o ρ' e => ?_, fun ρ => evC_def (by rw [evC] <;> simp) (by rw [evA]; simp)⟩
  rw [ev] at e
  obtain ⟨_, _, _, e⟩ := Res.bind_of e
  obtain ⟨_, _, _, e⟩ := Res.bind_of e
  obtain ⟨_, _, e⟩ := Res.bnd_of e
  obtain ⟨_, _, e⟩ := Res.bnd_of e
  obtain ⟨_, _, _, e⟩ := Res.bind_of e
  obtain ⟨r, er, e⟩ := Res.bnd_of e
  injection e with e _
  subst e
  obtain ⟨c, _, rfl⟩ := notO_of er
  exact ⟨_, rfl⟩
theorem b_deq {neg : Bool} {C f : Nat} {a b : SE} : BoolSE Φ (.deq neg C f a b) := by
  refine ⟨fun ρ o ρ' e => ?_, fun ρ => evC_def (by rw [evC] <;> simp) (by rw [evA]; simp)⟩
  rw [ev] at e
  obtain ⟨_, _, _, e⟩ := Res.bind_of e
  obtain ⟨_, _, _, e⟩ := Res.bind_of e
  obtain ⟨_, _, e⟩ := Res.bnd_of e
  obtain ⟨_, _, e⟩ := Res.bnd_of e
  obtain ⟨_, _, e⟩ := Res.bnd_of e
  obtain ⟨_, _, e⟩ := Res.bnd_of e
  obtain ⟨_, _, _, e⟩ := Res.bind_of e
  obtain ⟨r, er, e⟩ := Res.bnd_of e
  injection e with e _
  subst e
  obtain ⟨c, _, rfl⟩ := notO_of er
  exact ⟨_, rfl⟩
/-- x in o, x not in o -/
theorem s_din (neg : Bool) (hr : Room k X.A) (F : FnOk X.prog X.w X.K X.mg X.base (L2.CX X.prog X.w) k f fd ps (spOf T run)) (hΦ : Φ fi = ⟨n, run⟩) (hb : Binds X.K fd ps []) (hs : PySem.W.findIn X.K (.ref (T.cls C)) "__contains__" = some (some (.ref f))) (hf : PySem.W.isFn X.K (.ref f) = true)
    (ha : PE X e1 (tA T B Φ W sa)) (hb2 : PE X e2 (tA T B Φ W sb)) : CmpR T B Φ W X e1 (if neg then .NotIn else .In) e2 (.din neg C fi sa sb) := by
  have op : OpR X (compareOp (if neg then .NotIn else .In)) (fun x y H Q => ∃ b dx fs, y = .ref b ∧ H b = some (.ins (T.cls C) dx fs) ∧ spOf T run [.ref b, x] H (fun v H' => ∃ c : Bool, v = .bl c ∧ Q (.bl (if neg then !c else c)) H') (fun _ _ _ => False)) := by
    intro pins s σ H x y v u Q I rx ry hq
    obtain ⟨b, dx, fs, rfl, ea, h⟩ := hq
    cases (show u = Value.ref b from ry)
    obtain ⟨mA, O, _⟩ := ins_get I.hok ea
    obtain ⟨od, J, _⟩ := O.look
    obtain ⟨m, hF⟩ := I.fr
    have go := run_meth (A := X.A) (e := X.xe) F hr rfl hb I (.cons (rel_ref b) (.cons rx .nil)) h
    cases neg with
    | false =>
      refine PySem.W.in_K hF I.ok.mod.kin J hs hf (wpAny_mono go (fun r s' hv => ?_) fun _ _ z => z)
      obtain ⟨v', H', I', rv, c, rfl, q⟩ := hv
      cases (show r = Value.bool c from rv)
      exact wpAny_truthy_bool ⟨.bl c, H', I', rfl, q⟩
    | true =>
      refine PySem.W.notIn_K hF I.ok.mod.kin J hs hf (wpAny_mono go (fun r s' hv => ?_) fun _ _ z => z)
      obtain ⟨v', H', I', rv, c, rfl, q⟩ := hv
      cases (show r = Value.bool c from rv)
      exact wpAny_truthy_bool ⟨.bl (!c), H', I', rfl, q⟩
  refine ⟨_, _, _, op, ha, hb2, fun σ H Q ⟨ρ, l, a, h⟩ => ?_⟩
  rw [ev, hΦ] at h
  refine ⟨ρ, l, a, h.rg.bind.mono fun y ρ1 k v H1 a1 av => ⟨ρ1, argIts y v ++ l, a1, RG.more (k.bind.mono fun z ρ2 k2 w H2 a2 aw => ?_)⟩⟩
  obtain ⟨o, eo, k2⟩ := k2.bnd
  obtain ⟨_, em, k2⟩ := k2.bnd
  obtain ⟨ns, xs, ef⟩ := objC_of em
  obtain ⟨b, dx, ws, rfl, ea⟩ := arg_obj a2 aw eo ef
  refine ⟨b, dx, _, rfl, ea, call_ofN (as := [z, y]) (vs := [.ref b, v]) (k2.noXok.mono fun o ρ3 k3 u H3 a3 => ?_) (a2.perm ?_) ⟨aw, av, trivial⟩⟩
  · obtain ⟨r, er, k3⟩ := k3.bnd
    obtain ⟨c, rfl, rfl⟩ := notO_of er
    have : u = .bl c := (SatH.perm a3.sat List.perm_middle).read
    subst this
    refine ⟨c, rfl, k3 _ H3 ⟨a3.ok, ?_, a3.pr⟩⟩
    exact (((SatH.perm a3.sat List.perm_middle).drop1).bl).perm List.perm_middle.symm
  · show (argIts z (.ref b) ++ (argIts y v ++ l)).Perm ((argIts z (.ref b) ++ (argIts y v ++ [])) ++ l)
    rw [List.append_nil, List.append_assoc]
/-- o == x, o != x -/
theorem s_deq (neg : Bool) (hK : X.K = T.K) (hr : Room (k + 1) X.A) (ci : ClsI X.K (T.cls C)) (F : FnOk X.prog X.w X.K X.mg X.base (L2.CX X.prog X.w) k f fd ps (spOf T run)) (hΦ : Φ fi = ⟨n, run⟩) (hb : Binds X.K fd ps [])
    (hs : PySem.W.findIn X.K (.ref (T.cls C)) "__eq__" = some (some (.ref f))) (hne : PySem.W.findIn X.K (.ref (T.cls C)) "__ne__" = some (some (.builtin "object.__ne__"))) (hf : PySem.W.isFn X.K (.ref f) = true)
    (hty : ∀ t ∈ (["NoneType", "bool", "int", "str", "tuple", "list", "dict"] : List String), PySem.W.subIn X.K (.type t) (.ref (T.cls C)) = some false)
    (ha : PE X e1 (tA T B Φ W sa)) (hb2 : PE X e2 (tA T B Φ W sb)) : CmpR T B Φ W X e1 (if neg then .NotEq else .Eq) e2 (.deq neg C fi sa sb) := by
  have op : OpR X (compareOp (if neg then .NotEq else .Eq)) (fun x y H Q => ∃ b dx fs m o2, x = .ref b ∧ H b = some (.ins (T.cls C) dx fs) ∧ Sat T B H ((o2, y) :: m) ∧ eqTy C o2.frz = some () ∧ spOf T run [.ref b, y] H (fun v H' => ∃ c : Bool, v = .bl c ∧ Q (.bl (if neg then !c else c)) H') (fun _ _ _ => False)) := by
    intro pins s σ H x y v u Q I rx ry hq
    obtain ⟨b, dx, fs, m, o2, rfl, ea, sa, et, h⟩ := hq
    cases (show v = Value.ref b from rx)
    obtain ⟨mA, O, _⟩ := ins_get I.hok ea
    obtain ⟨od, J, _⟩ := O.look
    obtain ⟨m', hF⟩ := I.fr
    have lk := typ_pv hK I ry sa fun C' ns xs e => by
      rw [e] at et
      have et : (if C' = C then some () else none) = some () := et
      by_cases hc : C' = C
      · subst hc; exact ci
      · rw [if_neg hc] at et; cases et
    have nf : PySem.W.notFirst X.K (T.cls C) (tyV T o2.frz) = true := by
      unfold PySem.W.notFirst
      cases eo : o2.frz with
      | obj C' ns xs =>
        rw [eo] at et
        have et : (if C' = C then some () else none) = some () := et
        by_cases hc : C' = C
        · subst hc
          show ((Value.ref (T.cls C') == Value.ref (T.cls C')) || _) = true
          simp
        · rw [if_neg hc] at et; cases et
      | exc C' p => rw [eo] at et; cases et
      | non => show (_ || PySem.W.subIn X.K (.type "NoneType") _ == some false) = true; rw [hty _ (by simp)]; simp
      | bl _ => show (_ || PySem.W.subIn X.K (.type "bool") _ == some false) = true; rw [hty _ (by simp)]; simp
      | int _ => show (_ || PySem.W.subIn X.K (.type "int") _ == some false) = true; rw [hty _ (by simp)]; simp
      | str _ => show (_ || PySem.W.subIn X.K (.type "str") _ == some false) = true; rw [hty _ (by simp)]; simp
      | tup _ => show (_ || PySem.W.subIn X.K (.type "tuple") _ == some false) = true; rw [hty _ (by simp)]; simp
      | lst _ => show (_ || PySem.W.subIn X.K (.type "list") _ == some false) = true; rw [hty _ (by simp)]; simp
      | dic _ _ => show (_ || PySem.W.subIn X.K (.type "dict") _ == some false) = true; rw [hty _ (by simp)]; simp
    have vr : Vals [V.ref b, y] [Value.ref b, u] := .cons rfl (.cons ry .nil)
    cases neg with
    | false =>
      refine PySem.W.cmp_K (op := .Eq) hr.units0 hF I.ok.mod.kin J lk nf hs hf (wpAny_mono (run_meth (A := X.A) (e := X.xe) F (hr.mono (Nat.le_succ _)) rfl hb I vr h) (fun r s' hv => ?_) fun _ _ z => z)
      obtain ⟨v', H', I', rv, c, rfl, q⟩ := hv
      cases (show r = Value.bool c from rv)
      exact ⟨.bl c, H', I', rfl, q⟩
    | true =>
      refine ne_K hr.units0 (hr.in1).units0 hF I.ok.mod.kin J lk nf hne hs hf ci.hm (wpAny_mono (run_meth (A := X.A.in1) (e := X.xe) F hr.in1 rfl hb I vr h) (fun r s' hv => ?_) fun _ _ z => z)
      obtain ⟨v', H', I', rv, c, rfl, q⟩ := hv
      cases (show r = Value.bool c from rv)
      exact ⟨c, rfl, .bl (!c), H', I', rfl, q⟩
  refine ⟨_, _, _, op, ha, hb2, fun σ H Q ⟨ρ, l, a, h⟩ => ?_⟩
  rw [ev, hΦ] at h
  refine ⟨ρ, l, a, h.rg.bind.mono fun y ρ1 k v H1 a1 av => ⟨ρ1, argIts y v ++ l, a1, RG.more (k.bind.eq.mono fun z ρ2 ⟨ez, k2⟩ w H2 a2 aw => ?_)⟩⟩
  have a3 : At T B H2 ρ2 σ (argIts y v ++ (argIts z w ++ l)) := a2.perm swap_its
  obtain ⟨o, eo, k2⟩ := k2.bnd
  obtain ⟨_, em, k2⟩ := k2.bnd
  obtain ⟨o2, eo2, k2⟩ := k2.bnd
  obtain ⟨uu, em2, k2⟩ := k2.bnd
  obtain ⟨ns, xs, ef⟩ := objC_of em
  obtain ⟨b, dx, ws, rfl, ea⟩ := arg_obj a3 av eo ef
  obtain ⟨m, sm⟩ := arg_sat a2 aw eo2
  refine ⟨b, dx, _, m, o2, rfl, ea, sm, em2, call_ofN (as := [y, z]) (vs := [.ref b, w]) (k2.noXok.mono fun o ρ3 k3 u H3 a4 => ?_) (a3.perm ?_) ⟨av, aw, trivial⟩⟩
  · obtain ⟨r, er, k3⟩ := k3.bnd
    obtain ⟨c, rfl, rfl⟩ := notO_of er
    have : u = .bl c := (SatH.perm a4.sat List.perm_middle).read
    subst this
    refine ⟨c, rfl, k3 _ H3 ⟨a4.ok, ?_, a4.pr⟩⟩
    exact (((SatH.perm a4.sat List.perm_middle).drop1).bl).perm List.perm_middle.symm
  · show (argIts y (.ref b) ++ (argIts z w ++ l)).Perm ((argIts y (.ref b) ++ (argIts z w ++ [])) ++ l)
    rw [List.append_nil, List.append_assoc]
end
end
end PV
/-! PV24: objects made, isinstance, join, displays of dicts, fields stored -/
namespace PV
open PySem PySem.Spec PyProof.Rows L2
section
variable {T : Tab} {B : Base} {Φ : Phi} {W : WX} {X : Cx} {σ : L2.St} {l m : List It1} {H : Hp} {ρ : Env} {pins : List (Addr × Obj)} {s : Shared}
section
variable {k fi n nn : Nat} {f : Addr} {fd : FuncData} {ps ks : List Str} {run : List O → FRes} {g : List (Nat ⊕ D)} {dv : D → V} {x : Str} {p pos apos : Pos} {e o : Expr} {es : List Expr} {kws : List Keyword} {sp sk : List SE} {sa sb : SE} {C : Nat}
/-! ### C(e, ..) -/
theorem run_makeG {CA : Addr} {spp : Sp} {E : L2.St → XK} {Q : VK} {us ws : List Value} {vs : List V} (M : Mk X.K CA f) (F : FnOk X.prog X.w X.K X.mg X.base (L2.CX X.prog X.w) k f fd ps spp) (hr : Room (k + 1) X.A) (hb : BindG X.K fd ps (nn + 1) ks g dv)
    (hx : PassesAt (L2.CX X.prog X.w) X σ (E σ)) (I : Inv X pins σ H s) (r : Vals vs (us ++ ws)) (l1 : us.length = nn) (l2 : ws.length = ks.length)
    (h : ∀ x dx, H x = none → H dx = none → dx ≠ x → ∃ xs, arrX dv (.ref x :: vs) g = some xs ∧ spp xs (upd (upd H dx (.own x)) x (.ins CA dx [])) (fun v H2 => v = .non ∧ Q (.ref x) H2) (E σ)) :
    wpAny (model X.prog X.w) X.A (call (.ref CA) us (ks.zip ws)) (EP X pins σ Q) X.xe s := by
  obtain ⟨xs, ex, hq⟩ := h (s.heap.objs.size + 1) s.heap.objs.size (I.hok.fresh (Nat.le_succ _)) (I.hok.fresh (Nat.le_refl _)) (Nat.ne_of_lt (Nat.lt_succ_self _))
  have I2 := Inv.made (C := CA) I
  obtain ⟨du, h1, h2⟩ := hb.to
  have r1 : Vals (V.ref (s.heap.objs.size + 1) :: vs) ((Value.ref (s.heap.objs.size + 1) :: us) ++ ws) := .cons (rel_ref _) r
  obtain ⟨zs, e1, r2⟩ := vals_arr r1 h1 ex
  refine wpAny_call (make_map (f := f) I.kIn M.makes M.init (beq_iff_eq.mp M.fn) (codeAny_mono (F.run _ X.stack _ _ ⟨Value.ref (s.heap.objs.size + 1) :: us, ks.zip ws⟩ zs xs _ (E σ) (hr.make CA us (ks.zip ws))
    (I2.env0.make CA us (ks.zip ws)) (h2 _ (Value.ref (s.heap.objs.size + 1) :: us) ws zs I2.kIn (by simp [l1]) l2 e1) r2 hq) fun r s' hq' => ?_))
  cases r with
  | error e => exact hx pins _ _ e s' I2 hq'
  | ok fl =>
    cases fl with
    | ret u =>
      obtain ⟨v, H', I3, rv, ev, q3⟩ := I2.after hq'
      subst ev
      exact ⟨rv, ⟨V.ref (s.heap.objs.size + 1), H', I3, rfl, q3⟩⟩
    | next => exact False.elim hq'
    | brk => exact False.elim hq'
    | cont => exact False.elim hq'
theorem fetchL_cons {a : Arg} {as : List Arg} {ρ : Env} : fetchL (a :: as) ρ = (fetch a ρ).bind fun o ρ => (fetchL as ρ).bind fun os ρ => .ok (o :: os) ρ := rfl
theorem made_ok {r : FRes} {o : O} {ios : List O} (e : r.made = .ok o ios) : r = .ok (.d .non) (o :: ios) := by
  cases r with
  | ok v l =>
    cases v with
    | d x =>
      cases x with
      | non =>
        cases l with
        | nil => cases e
        | cons a b => injection e with e1 e2; subst e1 e2; rfl
      | _ => cases e
    | _ => cases e
  | exc C p l => cases l <;> cases e
  | bad => cases e
theorem made_exc {r : FRes} {C : Nat} {p : List D} {ios : List O} (e : r.made = .exc C p ios) : ∃ o, r = .exc C p (o :: ios) := by
  cases r with
  | ok v l =>
    cases v with
    | d x =>
      cases x with
      | non =>
        cases l with
        | nil => cases e
        | cons a b => cases e
      | _ => cases e
    | _ => cases e
  | exc C' p' l =>
    cases l with
    | nil => cases e
    | cons a b => injection e with e1 e2 e3; subst e1 e2 e3; exact ⟨a, rfl⟩
  | bad => cases e
/-- the arguments stand, the new object first: __init__ -/
theorem make_of {run : List O → FRes} {n : Nat} {as : List Arg} {vs : List V} {a0 : Addr} {C : Nat} {Q : VK} (h : RG T B W σ l (makeR ⟨n, run⟩ (.val (.obj C [] []) :: as) ρ) fun o ρ => ∀ v H, At T B H ρ σ ((o, v) :: l) → Q v H)
    (a : At T B H ρ σ (argItsL (.val (.obj C [] []) :: as) (.ref a0 :: vs) ++ l)) (av : ArgVs σ as vs) : spOf T run (.ref a0 :: vs) H (fun v H2 => v = .non ∧ Q (.ref a0) H2) (WE W σ) := by
  unfold makeR at h
  have h := h.bind
  cases e : fetchL (.val (.obj C [] []) :: as) ρ with
  | bad => rw [e] at h; exact h.elim
  | exc C p ρ' => exact (fetchL_exc e).elim
  | ok os ρ1 =>
    rw [e] at h
    have av' : ArgVs σ (.val (.obj C [] []) :: as) (.ref a0 :: vs) := ⟨trivial, av⟩
    obtain ⟨hl, a1⟩ := fetchL_at a av' e
    refine ⟨B, os, envIts ρ1 σ ++ l, hl, a1.sat.perm swap_its, ?_⟩
    have h : RG T B W σ l ((run os).made.to as ρ1) fun o ρ => ∀ v H, At T B H ρ σ ((o, v) :: l) → Q v H := h
    unfold SpEnd
    cases er : (run os).made with
    | bad => rw [er] at h; exact h.elim
    | ok r ios =>
      have := made_ok er
      rw [this]
      rw [er] at h
      have h : ∀ v H, At T B H (backL as ios ρ1) σ ((r, v) :: l) → Q v H := h
      intro u H' hi s
      have eu : u = .non := SatH.read s
      subst eu
      refine ⟨rfl, h (.ref a0) H' (backL_at (as := as) (os := ios) (vs := vs) (by simpa using hi) ⟨a1.ok, ?_, a1.pr⟩ av)⟩
      have s1 : Sat T B H' (((r, .ref a0) :: ios.zip vs) ++ (envIts ρ1 σ ++ l)) := SatH.drop1 s
      refine s1.perm ?_
      have p1 : ((r, V.ref a0) :: (ios.zip vs ++ (envIts ρ1 σ ++ l))).Perm ((r, V.ref a0) :: (envIts ρ1 σ ++ (ios.zip vs ++ l))) := swap_its.cons _
      exact p1.trans (List.perm_middle.symm.trans (List.perm_middle.symm.append_left _))
    | exc C' p ios =>
      obtain ⟨o0, this⟩ := made_exc er
      rw [this]
      rw [er] at h
      have h : ∀ d H its, At T B H (backL as ios ρ1) σ (its ++ l) → ExcIt T H C' p d its → W (.ref (T.cls C')) d σ H := h
      intro d H' its hi s ei
      refine h d H' its (backL_at (as := as) (os := ios) (vs := vs) (by simpa using hi) ⟨a1.ok, ?_, a1.pr⟩ av) ei
      have s0 : Sat T B H' (its ++ ((o0, .ref a0) :: (ios.zip vs ++ (envIts ρ1 σ ++ l)))) := s
      have s1 : Sat T B H' (its ++ (ios.zip vs ++ (envIts ρ1 σ ++ l))) := SatH.drop1 (s0.perm List.perm_middle)
      refine s1.perm ?_
      have p1 : (its ++ (ios.zip vs ++ (envIts ρ1 σ ++ l))).Perm (its ++ (envIts ρ1 σ ++ (ios.zip vs ++ l))) := swap_its.append_left _
      have p2 : (its ++ (envIts ρ1 σ ++ (ios.zip vs ++ l))).Perm (envIts ρ1 σ ++ (its ++ (ios.zip vs ++ l))) := swap_its
      exact p1.trans (p2.trans (swap_its.append_left _))
theorem s_makeA (M : Mk X.K (T.cls C) f) (F : FnOk X.prog X.w X.K X.mg X.base (L2.CX X.prog X.w) k f fd ps (spOf T run)) (hΦ : Φ fi = ⟨n, run⟩) (hr : Room (k + 1) X.A) (hb : BindG X.K fd ps (sp.length + 1) ks (.inl 0 :: g) dv) (hdv : ∀ d, .inr d ∈ g → ∀ own hp, Dr T own hp d (dv d)) (hlen : sk.length = ks.length)
    (hg : Gl X x) (hm : X.mg x = some (.ref (T.cls C))) (tk : Takes X W) (hp : PA X es (tAs T B Φ W sp)) (hkw : PK X kws (tAs T B Φ W sk)) (h0 : es = [] → sp = []) (h1 : Plain1 X es)
    (hall : (backToKw pos (keywordEach kws X.env)).all (·.1.isSome) = true) (hks : (backToKw pos (keywordEach kws X.env)).filterMap (·.1) = ks) (hpl : ((backTo pos (starEach es X.env)).any (·.1) || (backToKw pos (keywordEach kws X.env)).any (·.1.isNone)) = false)
    (hdb : (x == ("__debug__" : Str)) = false) : PE X (.Call (.Name x p) es kws pos) (tE T B Φ W (.make C fi (sp ++ sk) (.inl 0 :: g))) := by
  refine ⟨fun pins s σ H Q I ⟨ρ, l, a, h⟩ => ?_⟩
  rw [ev, hΦ] at h
  have h := h.rg.bind
  refine wpAny_Call_Name_kw (ld_glob I hg hm ?_ hdb)
  refine args_run hp hkw M.kp h0 h1 hall hks hpl I a h fun as ρ' us ws s1 vs H1 kk I1 r l1 l2 a1 av => ?_
  obtain ⟨as', e, kk⟩ := kk.bnd
  rw [arr] at e
  have e0 : ((Arg.val (.obj C [] []) :: as)[0]? : Option Arg) = some (.val (.obj C [] [])) := rfl
  rw [e0] at e
  cases e1 : arr (.val (.obj C [] []) :: as) g with
  | none => rw [e1] at e; cases e
  | some as2 =>
    rw [e1] at e
    injection e with e
    subst e
    refine run_makeG (E := WE W) M F hr hb (passAt tk σ) I1 r l1 (l2.trans hlen) fun a0 dx n1 n2 ne => ?_
    -- the new object at hand
    have sd : SatH T B (upd H1 dx (.own a0)) [] (envIts ρ' σ ++ (argItsL as vs ++ l)) := (SatH.alloc a1.sat n2).letgo
    have n1' : (upd H1 dx (.own a0)) a0 = none := by rw [upd_ne (Ne.symm ne)]; exact n1
    have sx := SatH.alloc (ob := .ins (T.cls C) dx []) sd n1'
    have so : Sat T B (upd (upd H1 dx (.own a0)) a0 (.ins (T.cls C) dx [])) ((.obj C [] [], .ref a0) :: (envIts ρ' σ ++ (argItsL as vs ++ l))) := SatH.closeO (os := []) (vs := []) sx upd_same rfl rfl
    have a2 : At T B (upd (upd H1 dx (.own a0)) a0 (.ins (T.cls C) dx [])) ρ' σ (argItsL (.val (.obj C [] []) :: as) (.ref a0 :: vs) ++ l) := ⟨a1.ok, so.perm (List.perm_middle.symm), a1.pr⟩
    have ea : arr (.val (.obj C [] []) :: as) (.inl 0 :: g) = some (.val (.obj C [] []) :: as2) := by rw [arr, e0, e1]
    obtain ⟨xs, ex, a3, av3⟩ := arr_at' hb.nd (fun d hd => hdv d ((List.mem_cons.mp hd).resolve_left (fun z => nomatch z))) a2 (show ArgVs σ (.val (.obj C [] []) :: as) (.ref a0 :: vs) from ⟨trivial, av⟩) ea
    refine ⟨xs, ex, ?_⟩
    rw [arrX] at ex
    have e2 : ((V.ref a0 :: vs)[0]? : Option V) = some (.ref a0) := rfl
    rw [e2] at ex
    cases e3 : arrX dv (.ref a0 :: vs) g with
    | none => rw [e3] at ex; cases ex
    | some xs2 =>
      rw [e3] at ex
      injection ex with ex
      subst ex
      exact make_of (n := n) kk a3 av3.2
end
/-! ### isinstance -/
def tyVal (T : Tab) : Ty1 → Value
  | .bool => .type "bool"
  | .int => .type "int"
  | .str => .type "str"
  | .list => .type "list"
  | .tuple => .type "tuple"
  | .dict => .type "dict"
  | .cls C => .ref (T.cls C)
end
end PV
/-! PV25: isinstance, methods of texts, displays of dicts, fields stored -/
namespace PV
open PySem PySem.Spec PyProof.Rows L2
/-! ### isinstance -/
def tyNames : List String := ["NoneType", "bool", "int", "str", "tuple", "list", "dict"]
def askNames : List String := ["bool", "int", "str", "list", "tuple", "dict"]
/-- what the text's classes cs are to isinstance -/
structure IsaT (K : PySem.W.Frag) (T : Tab) (cs : List Nat) : Prop where
  ci : ∀ C ∈ cs, ClsI K (T.cls C)
  kb : ∀ C ∈ cs, ∀ b ∈ askNames, PySem.W.kitOne K (.ref (T.cls C)) (.type b) = some false
  kc : ∀ C ∈ cs, ∀ a ∈ tyNames, PySem.W.kitOne K (.type a) (.ref (T.cls C)) = some false
  cc : ∀ C ∈ cs, ∀ C' ∈ cs, PySem.W.kitOne K (.ref (T.cls C)) (.ref (T.cls C')) = some (C' == C)
def tyName : Ty1 → String
  | .bool => "bool" | .int => "int" | .str => "str" | .list => "list" | .tuple => "tuple" | .dict => "dict" | .cls _ => ""
def tyVV (T : Tab) : Ty1 → V
  | .cls C => .ref (T.cls C)
  | t => .ty (tyName t)
def tyOk (cs : List Nat) : Ty1 → Bool
  | .cls C => decide (C ∈ cs)
  | _ => true
theorem clsV_of (T : Tab) (t : Ty1) : ClsV (tyVV T t) (tyVal T t) := by
  cases t <;> first | exact .own _ | exact .ty _
theorem clsVs_of (T : Tab) : ∀ ts : List Ty1, Paired ClsV (ts.map (tyVV T)) (ts.map (tyVal T))
  | [] => .nil
  | t :: r => .cons (clsV_of T t) (clsVs_of T r)
theorem kitTbl : ∀ a ∈ tyNames, ∀ b ∈ askNames, kitB a b = some (a == b || (a == "bool" && b == "int")) := by
  have h : (tyNames.all fun a => askNames.all fun b => kitB a b == some (a == b || (a == "bool" && b == "int"))) = true := by decide +kernel
  intro a ha b hb
  exact eq_of_beq (List.all_eq_true.mp (List.all_eq_true.mp h a ha) b hb)
theorem kit_two {K : PySem.W.Frag} {T : Tab} {cs : List Nat} (F : IsaT K T cs) {d : D} {t : Ty1} (hx : ∀ C p, d ≠ .exc C p) (ho : ∀ C ns vs, d = .obj C ns vs → C ∈ cs) (ht : tyOk cs t = true) : PySem.W.kitOne K (tyV T d) (tyVal T t) = some (isa1 d t) := by
  have b : ∀ (a b : String), a ∈ tyNames → b ∈ askNames → PySem.W.kitOne K (.type a) (.type b) = some (a == b || (a == "bool" && b == "int")) := fun a b ha hb => kit_ty (kitTbl a ha b hb)
  cases d with
  | exc C p => exact (hx C p rfl).elim
  | obj C ns vs =>
    have hc := ho C ns vs rfl
    cases t with
    | cls C' => exact F.cc C hc C' (of_decide_eq_true ht)
    | bool => exact F.kb C hc "bool" (by decide)
    | int => exact F.kb C hc "int" (by decide)
    | str => exact F.kb C hc "str" (by decide)
    | list => exact F.kb C hc "list" (by decide)
    | tuple => exact F.kb C hc "tuple" (by decide)
    | dict => exact F.kb C hc "dict" (by decide)
  | non => cases t <;> first | exact F.kc _ (of_decide_eq_true ht) _ (by decide) | exact b "NoneType" _ (by decide) (by decide)
  | bl _ => cases t <;> first | exact F.kc _ (of_decide_eq_true ht) _ (by decide) | exact b "bool" _ (by decide) (by decide)
  | int _ => cases t <;> first | exact F.kc _ (of_decide_eq_true ht) _ (by decide) | exact b "int" _ (by decide) (by decide)
  | str _ => cases t <;> first | exact F.kc _ (of_decide_eq_true ht) _ (by decide) | exact b "str" _ (by decide) (by decide)
  | tup _ => cases t <;> first | exact F.kc _ (of_decide_eq_true ht) _ (by decide) | exact b "tuple" _ (by decide) (by decide)
  | lst _ => cases t <;> first | exact F.kc _ (of_decide_eq_true ht) _ (by decide) | exact b "list" _ (by decide) (by decide)
  | dic _ _ => cases t <;> first | exact F.kc _ (of_decide_eq_true ht) _ (by decide) | exact b "dict" _ (by decide) (by decide)
theorem kit_any {K : PySem.W.Frag} {T : Tab} {cs : List Nat} (F : IsaT K T cs) {d : D} (hx : ∀ C p, d ≠ .exc C p) (ho : ∀ C ns vs, d = .obj C ns vs → C ∈ cs) : ∀ {ts : List Ty1}, ts.all (tyOk cs) = true → PySem.W.kitAny K (tyV T d) (ts.map (tyVal T)) = some (ts.any (isa1 d))
  | [], _ => rfl
  | t :: ts, h => by
    rw [List.all_cons, Bool.and_eq_true] at h
    have ih := kit_any F hx ho h.2
    refine kitAny_cons (kit_two F hx ho h.1) (fun hb => ?_) fun hb => ?_
    · rw [List.any_cons, hb, Bool.false_or]; exact ih
    · rw [List.any_cons, hb, Bool.true_or]
section
variable {T : Tab} {B : Base} {Φ : Phi} {W : WX} {X : Cx} {σ : L2.St} {l m : List It1} {H : Hp} {ρ : Env} {pins : List (Addr × Obj)} {s : Shared} {e c o : Expr} {es : List Expr} {p pos apos cpos : Pos} {sa sb : SE} {ses : List SE} {cs : List Nat}
theorem isaD_of {ts : List Ty1} {d : D} {r : O} (e : isaD cs ts [d] = some r) : (∀ C p, d ≠ .exc C p) ∧ (∀ C ns vs, d = .obj C ns vs → C ∈ cs) ∧ r = .d (.bl (ts.any (isa1 d))) := by
  cases d with
  | exc C p => cases e
  | obj C ns vs =>
    have e : (if C ∈ cs then some (O.d (.bl (ts.any (isa1 (.obj C ns vs))))) else none) = some r := e
    by_cases h : C ∈ cs
    · rw [if_pos h] at e
      injection e with e
      exact ⟨(fun _ _ z => nomatch z), fun C' ns' vs' z => by injection z with z; subst z; exact h, e.symm⟩
    · rw [if_neg h] at e; cases e
  | _ => injection e with e; exact ⟨(fun _ _ z => nomatch z), (fun _ _ _ z => nomatch z), e.symm⟩
/-- isinstance(x, t) -/
theorem s_isa {t : Ty1} (hK : X.K = T.K) (F : IsaT X.K T cs) (ht : tyOk cs t = true) (hg : Gl X "isinstance") (hm : X.mg "isinstance" = none) (ha : PE X e (tA T B Φ W sa)) (hc : PE X c (tC (tyVV T t)))
    (h1 : starEach [e, c] X.env = (false, eval e X.env) :: starEach [c] X.env) (h2 : starEach [c] X.env = (false, eval c X.env) :: starEach [] X.env) (hpl : (backTo pos (starEach [c] X.env)).any (·.1) = false) :
    PE X (.Call (.Name "isinstance" p) [e, c] [] pos) (tE T B Φ W (.isa cs [t] sa)) := by
  have cr : CallR X (.builtin "isinstance") (fun xs H Q => ∃ x, xs = [x, tyVV T t] ∧ relN T B (isaD cs [t]) false [x] H Q) := by
    intro pins s σ H xs us Q I r h
    obtain ⟨x, rfl, h⟩ := h
    obtain ⟨o, l, r0, sa, ee, q⟩ := rel1 h
    obtain ⟨u1, u2, rfl, r1, r2⟩ := vals2 r
    have := (clsV_of T t).eq r2
    subst this
    obtain ⟨g1, g2, rfl⟩ := isaD_of ee
    obtain ⟨P, Z, pp, hx⟩ := kit_pv hK I r1 sa fun C ns xs z => F.ci C (g2 C ns xs z)
    refine PySem.W.kia_one Z I.kIn pp (kit_two F g1 g2 ht) hx fun tk => ⟨.bl (isa1 o.frz t), H, I.tok tk, rfl, ?_⟩
    have := q (.bl ([t].any (isa1 o.frz))) H sa.bl
    rw [List.any_cons, List.any_nil, Bool.or_false] at this
    exact this
  refine (pe_callB cr hg hm (by decide +kernel) (pa_cons ha (pa_cons hc pa_nil h2) h1) (by decide) (by decide) h1 hpl).pv fun σ H Q ⟨ρ, l, a, h⟩ => ?_
  rw [ev] at h
  exact ⟨ρ, l, a, h.rg.bind.mono fun y ρ1 k v H1 a1 av => ⟨v, rfl, rel_of (as := [y]) k (a1.perm one_its) ⟨av, trivial⟩⟩⟩
/-- a tuple of classes -/
def tyTA (T : Tab) : List Ty1 → TA
  | [] => tNil
  | t :: r => tCons (tC (tyVV T t)) (tyTA T r)
theorem tyTA_run {T : Tab} {σ : L2.St} {H : Hp} : ∀ {ts : List Ty1} {Q : List V → Hp → Prop}, Q (ts.map (tyVV T)) H → tyTA T ts σ H Q
  | [], Q, h => h
  | t :: r, Q, h => tyTA_run (ts := r) h
theorem s_isaT {ts : List Ty1} {cs' : List Expr} {kk : Nat} {tpos : Pos} (hK : X.K = T.K) (F : IsaT X.K T cs) (ht : ts.all (tyOk cs) = true) (hz : ts.length ≤ 100) (hg : Gl X "isinstance") (hm : X.mg "isinstance" = none) (ha : PE X e (tA T B Φ W sa)) (hc : PA X cs' (tyTA T ts))
    (h1 : starEach [e, .Tuple cs' kk tpos] X.env = (false, eval e X.env) :: starEach [.Tuple cs' kk tpos] X.env) (h2 : starEach [.Tuple cs' kk tpos] X.env = (false, eval (.Tuple cs' kk tpos) X.env) :: starEach [] X.env) (hpl : (backTo pos (starEach [.Tuple cs' kk tpos] X.env)).any (·.1) = false) :
    PE X (.Call (.Name "isinstance" p) [e, .Tuple cs' kk tpos] [] pos) (tE T B Φ W (.isa cs ts sa)) := by
  have cr : CallR X (.builtin "isinstance") (fun xs H Q => ∃ x tp, xs = [x, .ref tp] ∧ H tp = some (.tup (ts.map (tyVV T))) ∧ relN T B (isaD cs ts) false [x] H Q) := by
    intro pins s σ H xs us Q I r h
    obtain ⟨x, tp, rfl, hT, h⟩ := h
    obtain ⟨o, l, r0, sa, ee, q⟩ := rel1 h
    obtain ⟨u1, u2, rfl, r1, r2⟩ := vals2 r
    cases (show u2 = Value.ref tp from r2)
    obtain ⟨g1, g2, rfl⟩ := isaD_of ee
    obtain ⟨P, Z, pp, hx⟩ := kit_pv hK I r1 sa fun C ns xs z => F.ci C (g2 C ns xs z)
    obtain ⟨_, its, rv, o', h1, h2, n, h3⟩ := (show ObjOk X.prog X.w H s.heap tp (.tup (ts.map (tyVV T))) from I.hok tp _ hT)
    have pr : Paired ClsV (ts.map (tyVV T)) (ts.map (tyVal T)) := clsVs_of T ts
    have e3 := ClsV.all pr rv
    subst e3
    obtain ⟨oc, od, dt, sl⟩ := o'
    simp only at h2 h3
    subst h2 h3
    exact PySem.W.kia_tup Z I.kIn pp h1 (kit_any F g1 g2 ht) hx fun tk => ⟨.bl (ts.any (isa1 o.frz)), H, I.tok tk, rfl, q _ _ sa.bl⟩
  refine (pe_callB cr hg hm (by decide +kernel) (pa_cons ha (pa_cons (pe_tup hc) pa_nil h2) h1) (by decide) (by decide) h1 hpl).pv fun σ H Q ⟨ρ, l, a, h⟩ => ?_
  rw [ev] at h
  refine ⟨ρ, l, a, h.rg.bind.mono fun y ρ1 k v H1 a1 av => tyTA_run ⟨?_, fun tp hp => ⟨v, tp, rfl, upd_same, ?_⟩⟩⟩
  · rw [List.length_map, sizeLine_eq]; omega
  · have a2 : At T B (upd H1 tp (.tup (ts.map (tyVV T)))) ρ1 σ (argIts y v ++ l) := ⟨a1.ok, (a1.sat.alloc hp).letgo, a1.pr⟩
    exact rel_of (as := [y]) k (a2.perm one_its) ⟨av, trivial⟩
/-! ### methods of texts -/
theorem s_mt {k : Mt} {Ty id : String} {nm : Str} {b1 : Expr} (pa : PlainAttrs Ty) (slot : Slot Ty nm id) (hty : typeOf (.builtin id) = pure (.type "method_descriptor")) (hm : MtR X id (fun x xs H Q => relN T B (mtD k) true (x :: xs) H Q))
    (ht : ∀ d o v H m, o.frz = d → mtTy k d = some () → Sat T B H ((o, v) :: m) → L2.tyV X.K Ty v H) (ho : PE X o (tA T B Φ W sa)) (ha : PA X (b1 :: es) (tAs T B Φ W ses))
    (hbase : attributeBase o nm X.env (eval o X.env) = eval o X.env)
    (hfew : ((backTo cpos (starEach (b1 :: es) X.env)).all (fun x => !x.1) && (backToKw cpos (keywordEach [] X.env)).all (fun x => x.1.isSome)
      && decide ((b1 :: es).length + ([] : List Keyword).length + (if ([] : List Keyword).isEmpty then 0 else 1) < 30)) = true)
    (hline : (apos.endLine == cpos.line) = true) (hs : starEach (b1 :: es) X.env = (false, eval b1 X.env) :: starEach es X.env) (hplain : (backTo cpos (starEach es X.env)).any (·.1) = false) :
    PE X (.Call (.Attribute o nm apos) (b1 :: es) [] cpos) (tE T B Φ W (.mt k sa ses)) :=
  (pe_bm pa slot hty hm ho ha hbase hfew hline hs hplain).pv fun σ H Q ⟨ρ, l, a, h⟩ => by
    rw [ev] at h
    refine ⟨ρ, l, a, h.rg.bind.mono fun y ρ1 k1 v H1 a1 av => ?_⟩
    obtain ⟨o', eo, k1⟩ := k1.bnd
    obtain ⟨uu, em, k1⟩ := k1.bnd
    obtain ⟨m, sm⟩ := arg_sat a1 av eo
    refine ⟨ht _ o' v H1 m rfl em sm, ρ1, argIts y v ++ l, a1, RG.more (k1.bind.mono fun as ρ2 k2 vs H2 a2 avs => ?_)⟩
    refine rel_of (as := y :: as) (vs := v :: vs) k2 (a2.perm ?_) ⟨av, avs⟩
    show (argItsL as vs ++ (argIts y v ++ l)).Perm ((argIts y v ++ argItsL as vs) ++ l)
    rw [List.append_assoc]
    exact swap_its
theorem strs_vals {own : Addr → Prop} {h : Hp} : ∀ {xs : List D} {ys : List Str} {vs : List V}, strsD xs = some ys → DrL T own h xs vs → vs = ys.map V.str
  | [], ys, vs, e, d => by
    injection e with e; subst e
    exact d
  | x :: xs, ys, vs, e, d => by
    cases x with
    | str z =>
      have e : (strsD xs).map (z :: ·) = some ys := e
      obtain ⟨r, e1, e2⟩ := Option.map_eq_some_iff.mp e
      subst e2
      obtain ⟨v, w, rfl, d1, d2⟩ := d
      have d1 : v = .str z := d1
      rw [d1, strs_vals e1 d2]; rfl
    | _ => cases e
theorem m_join (hK : X.K = T.K) : MtR X "str.join" (fun x xs H Q => relN T B (mtD .join) true (x :: xs) H Q) := by
  intro pins s σ H x xs v us Q I rx rs h
  obtain ⟨os, l, r, hl, sa, e, q⟩ := h
  match os, hl with
  | o :: os', hl =>
    match xs, os', hl with
    | [], [], _ => cases e1 : o.frz <;> simp only [List.map_cons, List.map_nil, e1] at e <;> cases e
    | [y], [p], _ =>
      have sa : Sat T B H ((o, x) :: (p, y) :: l) := sa
      cases e1 : o.frz with
      | str a =>
        cases e2 : p.frz with
        | lst zs =>
          simp only [List.map_cons, List.map_nil, e1, e2] at e
          have e : (match strsD zs with
            | some ys => if (ys.map (·.length)).sum + ys.length * a.length ≤ 16777216 then some (O.d (.str (Txt.join a ys))) else none
            | none => none) = some r := e
          cases e3 : strsD zs with
          | none => rw [e3] at e; cases e
          | some ys =>
            rw [e3] at e
            have e : (if (ys.map (·.length)).sum + ys.length * a.length ≤ 16777216 then some (O.d (.str (Txt.join a ys))) else none) = some r := e
            by_cases hz : (ys.map (·.length)).sum + ys.length * a.length ≤ 16777216
            · rw [if_pos hz] at e
              injection e with e
              subst e
              have d1 := SatH.read sa
              rw [e1] at d1
              have d1 : x = .str a := d1
              subst d1
              have s2 : Sat T B H ((p, y) :: (o, .str a) :: l) := sa.perm (.swap _ _ _)
              have d2 := SatH.read s2
              obtain ⟨b, vs, rfl, hb, _, _⟩ := Sat.kidsL s2 e2
              have hv : vs = ys.map V.str := by
                rw [e2] at d2
                obtain ⟨b', vs', eb, h1, h2⟩ := d2
                injection eb with eb
                subst eb
                have hv' := strs_vals e3 h2
                have hb' : SqL T.K H b vs' := by
                  rcases h1 with ⟨_, h1⟩ | h1
                  · exact .inl (rd_vw s2 (fun _ _ z => nomatch z) h1)
                  · exact .inr h1
                rw [← hv']
                rw [← hK] at hb hb'
                exact I.list_inj hb hb'
              subst hv
              refine mt_join pins s σ H _ _ v us Q I rx rs ⟨a, b, ys, rfl, rfl, .inl (by rw [hK]; exact hb), hz, q _ _ ?_⟩
              have s3 : SatH T B H [] ((O.shal p, V.ref b) :: (o, .str a) :: l) := shal_any s2
              have s4 : SatH T B H [] ((O.shal o, V.str a) :: (O.shal p, V.ref b) :: l) := shal_any (s3.perm (.swap _ _ _))
              exact s4.str
            · rw [if_neg hz] at e; cases e
        | _ => simp only [List.map_cons, List.map_nil, e1, e2] at e; cases e
      | _ => simp only [List.map_cons, List.map_nil, e1] at e; cases e
    | _ :: _ :: _, p :: _ :: _, _ =>
      cases e1 : o.frz <;> cases e2 : p.frz <;> simp only [List.map_cons, e1, e2] at e <;> cases e
    | [], _ :: _, hl => simp at hl
    | _ :: _, [], hl => simp at hl
    | [_], _ :: _ :: _, hl => simp at hl
    | _ :: _ :: _, [_], hl => simp at hl
theorem m_split (hK : X.K = T.K) : MtR X "str.split" (fun x xs H Q => relN T B (mtD .split) true (x :: xs) H Q) := by
  intro pins s σ H x xs v us Q I rx rs h
  obtain ⟨os, l, r, hl, sa, e, q⟩ := h
  match os, hl with
  | o :: os', hl =>
    match xs, os', hl with
    | [], [], _ => cases e1 : o.frz <;> simp only [List.map_cons, List.map_nil, e1] at e <;> cases e
    | [y], [p], _ =>
      have sa : Sat T B H ((o, x) :: (p, y) :: l) := sa
      cases e1 : o.frz with
      | str a =>
        cases e2 : p.frz with
        | str b =>
          simp only [List.map_cons, List.map_nil, e1, e2] at e
          have e : (if (b.length == 0) = false ∧ a.length + 2 ≤ sizeLine then some (O.lst ((Txt.split a b).map fun x => .d (.str x))) else none) = some r := e
          by_cases hz : (b.length == 0) = false ∧ a.length + 2 ≤ sizeLine
          · rw [if_pos hz] at e
            injection e with e
            subst e
            have d1 := SatH.read sa
            rw [e1] at d1
            have d1 : x = .str a := d1
            subst d1
            have s2 : Sat T B H ((p, y) :: (o, .str a) :: l) := sa.perm (.swap _ _ _)
            have d2 := SatH.read s2
            rw [e2] at d2
            have d2 : y = .str b := d2
            subst d2
            refine mt_split pins s σ H _ _ v us Q I rx rs ⟨a, b, rfl, rfl, hz.1, hz.2, fun pp hp => q _ _ ?_⟩
            have s3 : SatH T B H [] ((O.shal p, V.str b) :: (o, .str a) :: l) := shal_any s2
            have s4 : SatH T B H [] ((O.shal o, V.str a) :: (O.shal p, V.str b) :: l) := shal_any (s3.perm (.swap _ _ _))
            refine Sat.newL (os := (Txt.split a b).map fun x => .d (.str x)) ?_ (by simp) hp
            have : ∀ (zs : List Str) {m : List It1}, SatH T B H [] m → SatH T B H [] ((zs.map fun x => O.d (.str x)).zip (zs.map V.str) ++ m) := by
              intro zs
              induction zs with
              | nil => intro m h; exact h
              | cons z zs ih => intro m h; exact (ih h).str
            exact this _ s4
          · rw [if_neg hz] at e; cases e
        | _ => simp only [List.map_cons, List.map_nil, e1, e2] at e; cases e
      | _ => simp only [List.map_cons, List.map_nil, e1] at e; cases e
    | _ :: _ :: _, p :: _ :: _, _ =>
      cases e1 : o.frz <;> cases e2 : p.frz <;> simp only [List.map_cons, e1, e2] at e <;> cases e
    | [], _ :: _, hl => simp at hl
    | _ :: _, [], hl => simp at hl
    | [_], _ :: _ :: _, hl => simp at hl
    | _ :: _ :: _, [_], hl => simp at hl
theorem strTy {d : D} {o : O} {v : V} {H : Hp} {m : List It1} (k : Mt) (hk : k = .join ∨ k = .split) (ed : o.frz = d) (e : mtTy k d = some ()) (s : Sat T B H ((o, v) :: m)) : L2.tyV X.K "str" v H := by
  have r := SatH.read s
  rw [ed] at r
  rcases hk with rfl | rfl
  · cases d <;> first | (cases (r : v = .str _); exact rfl) | cases e
  · cases d <;> first | (cases (r : v = .str _); exact rfl) | cases e
theorem SatH.drop2' {hs : List Addr} {p q : It1} (s : SatH T B H hs (p :: q :: l)) : SatH T B H hs (p :: l) := (SatH.drop1 (o := q.1) (v := q.2) (s.perm (.swap _ _ _)))
/-! ### fields stored -/
theorem putF_zip {f : Str} {y : V} {v : O} : ∀ {ns : List Str} {os : List O} {ws : List V}, os.length = ns.length → ns.length = ws.length → ∃ ws', putF f y (ns.zip ws) = (putFO f v ns os).1.zip ws' ∧ (putFO f v ns os).1.length = ws'.length ∧ (putFO f v ns os).2.length = ws'.length ∧
    ∀ {T : Tab} {B : Base} {H : Hp} {hs : List Addr} {l : List It1}, SatH T B H hs ((v, y) :: (os.zip ws ++ l)) → SatH T B H hs ((putFO f v ns os).2.zip ws' ++ l)
  | [], [], [], _, _ => ⟨[y], rfl, rfl, rfl, fun s => s⟩
  | [], _ :: _, _, h, _ => by simp at h
  | _ :: _, [], _, h, _ => by simp at h
  | [], [], _ :: _, _, h => by simp at h
  | _ :: _, _ :: _, [], _, h => by simp at h
  | n :: ns, o :: os, w :: ws, h1, h2 => by
    by_cases hn : n = f
    · refine ⟨y :: ws, ?_, ?_, ?_, fun {T B H hs l} s => ?_⟩
      · show (if n = f then (n, y) :: ns.zip ws else (n, w) :: putF f y (ns.zip ws)) = _
        unfold putFO
        rw [if_pos hn, if_pos hn]; rfl
      · unfold putFO; rw [if_pos hn]; simpa using h2
      · unfold putFO; rw [if_pos hn]; simp at h1 h2 ⊢; omega
      · unfold putFO
        rw [if_pos hn]
        have s : SatH T B H hs ((v, y) :: (o, w) :: (os.zip ws ++ l)) := s
        exact s.drop2'
    · obtain ⟨ws', e1, e2, e3, k⟩ := putF_zip (f := f) (y := y) (v := v) (ns := ns) (os := os) (ws := ws) (by simpa using h1) (by simpa using h2)
      refine ⟨w :: ws', ?_, ?_, ?_, fun {T B H hs l} s => ?_⟩
      · show (if n = f then (n, y) :: ns.zip ws else (n, w) :: putF f y (ns.zip ws)) = _
        unfold putFO
        rw [if_neg hn, if_neg hn, e1]; rfl
      · unfold putFO; rw [if_neg hn]; simpa using e2
      · unfold putFO; rw [if_neg hn]; simpa using e3
      · unfold putFO
        rw [if_neg hn]
        have s : SatH T B H hs ((v, y) :: (o, w) :: (os.zip ws ++ l)) := s
        have s1 : SatH T B H hs ((v, y) :: (os.zip ws ++ (o, w) :: l)) := s.perm ((List.perm_middle.symm).cons _)
        have s2 := k s1
        exact s2.perm List.perm_middle
theorem st_fld {i C : Nat} {f x : Str} {pos' p1 : Pos} (cl : Cls X.K (T.cls C) ∧ NoAttr X.K (T.cls C) f) (hK : X.K = T.K) (he : PE X e (tE T B Φ W sa)) (hN : X.N[i]? = some x) (hv : Vis X.env.scope x) (hd : (x == ("__debug__" : Str)) = false) (hc : (x == ("__classdict__" : Str)) = false)
    (hs : swapsWith e (some (.Attribute (.Name x p1) f pos')) pos.line X.env = pure false) : PS X (.Assign [.Attribute (.Name x p1) f pos'] e pos) (tS T B Φ W (.fld i C f sa)) :=
  (ps_fld (pe_var hN hv hd hc) he hs).pv fun D σ H ⟨ρ, l, at_, h⟩ => by
    rw [evS] at h
    refine ⟨ρ, l, at_, RG.rp (h.rg.mono fun ov ρ1 k1 w H1 a1 => ?_)⟩
    obtain ⟨o, eo, k1⟩ := k1.bnd
    obtain ⟨o', es, k2⟩ := k1.bnd
    have k2 : ∀ σ H, At T B H (ρ1.set i (some o')) σ l → D.nx σ H := k2
    obtain ⟨v, evi⟩ := a1.ok.at eo
    have a0 := a1.take eo evi
    cases o with
    | obj C' ns os =>
      have es0 : (if C' = C ∧ ns.length < 1000 then some (let r := putFO f ov ns os; O.obj C' r.1 r.2) else none) = some o' := es
      by_cases hC : C' = C ∧ ns.length < 1000
      · rw [if_pos hC] at es0
        injection es0 with es0
        obtain ⟨rfl, hlen⟩ := hC
        have s1 : Sat T B H1 ((.obj C' ns os, v) :: ((ov, w) :: (envIts (ρ1.set i none) σ ++ l))) := a0.sat.perm (List.perm_middle.trans (List.perm_middle.cons _))
        obtain ⟨b, dx, ws, rfl, hb, hn, hl, s2⟩ := SatH.openO s1
        refine ⟨.ref b, evi, b, T.cls C', dx, ns.zip ws, rfl, hb, cl.1, cl.2, by rw [List.length_zip]; omega, ?_⟩
        obtain ⟨ws', e1, e2, e3, k⟩ := putF_zip (f := f) (y := w) (v := ov) (ns := ns) (os := os) (ws := ws) (by omega) hn
        rw [e1]
        have s3 : SatH T B H1 [b] ((putFO f ov ns os).2.zip ws' ++ (envIts (ρ1.set i none) σ ++ l)) := k (s2.perm List.perm_middle)
        have ne : (∀ xs, H1 b ≠ some (.tup xs)) ∧ ∀ ob u, H1 b ≠ some (.frz ob u) := ⟨(fun xs z => by rw [hb] at z; cases z), (fun ob u z => by rw [hb] at z; cases z)⟩
        have s4 : Sat T B (upd H1 b (.ins (T.cls C') dx ((putFO f ov ns os).1.zip ws'))) ((.obj C' (putFO f ov ns os).1 (putFO f ov ns os).2, .ref b) :: (envIts (ρ1.set i none) σ ++ l)) := SatH.closeO (s3.write ne.1 ne.2) upd_same e2 e3
        have a5 : At T B (upd H1 b (.ins (T.cls C') dx ((putFO f ov ns os).1.zip ws'))) (ρ1.set i none) σ ((o', .ref b) :: l) := ⟨a0.ok, by rw [← es0]; exact s4.perm List.perm_middle.symm, a0.pr⟩
        have hi2 : i < (ρ1.set i none).length := by rw [List.length_set]; exact slot_lt eo
        have t := a5.fill (i := i) (by unfold slotE; rw [List.getElem?_set_self (slot_lt eo)]; rfl) hi2 evi
        rw [List.set_set] at t
        exact k2 σ _ t
      · rw [if_neg hC] at es0; cases es0
    | _ => cases es
end
end PV
/-! PV26: displays of dicts -/
namespace PV
open PySem PySem.Spec PyProof.Rows L2
def flatS : List (SE × SE) → List SE
  | [] => []
  | (k, v) :: r => k :: v :: flatS r
def flatV : List (V × V) → List V
  | [] => []
  | (k, v) :: r => k :: v :: flatV r
def tPp (T : Tab) (B : Base) (Φ : Phi) (W : WX) (kvs : List (SE × SE)) : List (TE × TE) := kvs.map fun p => (tE T B Φ W p.1, tE T B Φ W p.2)
section
variable {T : Tab} {B : Base} {Φ : Phi} {W : WX} {X : Cx} {σ : L2.St} {l m : List It1} {H : Hp} {ρ : Env} {pins : List (Addr × Obj)} {s : Shared} {e c o : Expr} {es : List Expr} {p pos apos cpos : Pos} {sa sb : SE} {ses : List SE}
theorem pairs_of : ∀ {kvs : List (SE × SE)} {ρ : Env} {l : List It1} {H : Hp} {Q : List (V × V) → Hp → Prop}, At T B H ρ σ l → RG T B W σ l (evL Φ (flatS kvs) ρ) (fun os ρ' => ∀ ps H', os.length = (flatV ps).length → At T B H' ρ' σ (os.zip (flatV ps) ++ l) → Q ps H') → tPairs (tPp T B Φ W kvs) σ H Q
  | [], ρ, l, H, Q, a, h => by
    have h : RG T B W σ l (evL Φ [] ρ) (fun os ρ' => ∀ ps H', os.length = (flatV ps).length → At T B H' ρ' σ (os.zip (flatV ps) ++ l) → Q ps H') := h
    rw [evL] at h
    exact h [] H rfl a
  | (k, v) :: r, ρ, l, H, Q, a, h => by
    have h : RG T B W σ l (evL Φ (k :: v :: flatS r) ρ) (fun os ρ' => ∀ ps H', os.length = (flatV ps).length → At T B H' ρ' σ (os.zip (flatV ps) ++ l) → Q ps H') := h
    rw [evL] at h
    refine ⟨ρ, l, a, RG.rp (h.bind.mono fun ok ρ1 h1 y H1 a1 => ⟨ρ1, (ok, y) :: l, a1, RG.rp (RG.more1 ?_)⟩)⟩
    rw [evL] at h1
    refine h1.bind.bind.mono fun ov ρ2 h2 z H2 a2 => pairs_of (kvs := r) a2 (RG.more1 (RG.more1 ?_))
    refine h2.bind.mono fun os ρ3 h3 ps H3 hl a3 => ?_
    have h3 : ∀ ps' H', (ok :: ov :: os).length = (flatV ps').length → At T B H' ρ3 σ ((ok :: ov :: os).zip (flatV ps') ++ l) → Q ps' H' := h3
    refine h3 ((y, z) :: ps) H3 (by simp [flatV, hl]) (a3.perm ?_)
    show (os.zip (flatV ps) ++ (ov, z) :: (ok, y) :: l).Perm ((ok, y) :: (ov, z) :: (os.zip (flatV ps) ++ l))
    exact (List.perm_middle.trans (List.perm_middle.cons _)).trans (.swap _ _ _)
theorem flat_perm : ∀ {os : List O} {ps : List (V × V)}, os.length = (flatV ps).length → (os.zip (flatV ps)).Perm ((evens os).zip (ps.map (·.1)) ++ (odds os).zip (ps.map (·.2))) ∧ (evens os).length = ps.length ∧ (odds os).length = ps.length
  | [], [], _ => ⟨.refl _, rfl, rfl⟩
  | [], _ :: _, h => by simp [flatV] at h
  | _ :: _, [], h => by simp [flatV] at h
  | [_], _ :: _, h => by simp [flatV] at h
  | a :: b :: os, (k, v) :: ps, h => by
    obtain ⟨h1, h2, h3⟩ := flat_perm (os := os) (ps := ps) (by simpa [flatV] using h)
    refine ⟨?_, by simp [evens, h2], by simp [odds, h3]⟩
    show ((a, k) :: (b, v) :: os.zip (flatV ps)).Perm ((a, k) :: ((evens os).zip (ps.map (·.1)) ++ (b, v) :: (odds os).zip (ps.map (·.2))))
    exact ((h1.cons _).trans List.perm_middle.symm).cons _
theorem putK_new {kvs : List (Key × V)} {k : Key} {v : V} (h : ∀ kv ∈ kvs, kv.1 ≠ k) : putK kvs k v = kvs ++ [(k, v)] := by
  unfold putK
  rw [if_neg]
  intro z
  obtain ⟨kv, h1, h2⟩ := List.any_eq_true.mp z
  exact h kv h1 (of_decide_eq_true h2)
theorem merge_nodup : ∀ {js : List Key} {ws : List V} {acc : List (Key × V)}, js.length = ws.length → js.Nodup → (∀ j ∈ js, ∀ kv ∈ acc, kv.1 ≠ j) → (js.zip ws).foldl (fun acc kv => putK acc kv.1 kv.2) acc = acc ++ js.zip ws
  | [], [], acc, _, _, _ => by simp
  | [], _ :: _, _, h, _, _ => by simp at h
  | _ :: _, [], _, h, _, _ => by simp at h
  | j :: js, w :: ws, acc, hl, nd, h => by
    obtain ⟨n1, n2⟩ := List.nodup_cons.mp nd
    show (js.zip ws).foldl _ (putK acc j w) = _
    rw [putK_new (h j List.mem_cons_self), merge_nodup (by simpa using hl) n2 ?_]
    · simp
    · intro i hi kv hkv
      rcases List.mem_append.mp hkv with hkv | hkv
      · exact h i (List.mem_cons_of_mem _ hi) kv hkv
      · rw [List.mem_singleton] at hkv
        subst hkv
        exact fun e => n1 (by rw [show j = i from e]; exact hi)
theorem dicO_of {ks vs : List O} {o : O} (e : dicO ks vs = some o) : ∃ js, keysOf (ks.map O.frz) = some js ∧ js.Nodup ∧ js.length ≤ 15 ∧ o = .dic (ks.map O.frz) vs := by
  unfold dicO at e
  cases e1 : keysOf (ks.map O.frz) with
  | none => rw [e1] at e; cases e
  | some js =>
    rw [e1] at e
    have e : (if js.Nodup ∧ js.length ≤ 15 then some (O.dic (ks.map O.frz) vs) else none) = some o := e
    by_cases h : js.Nodup ∧ js.length ≤ 15
    · rw [if_pos h] at e
      injection e with e
      exact ⟨js, rfl, h.1, h.2, e.symm⟩
    · rw [if_neg h] at e; cases e
theorem freezeL : ∀ {ks : List O} {vs : List V} {hs : List Addr} {m : List It1}, SatH T B H hs (ks.zip vs ++ m) → SatH T B H hs (((ks.map O.frz).map O.d).zip vs ++ m)
  | [], vs, hs, m, s => s
  | k :: ks, [], hs, m, s => by simpa using s
  | k :: ks, v :: vs, hs, m, s => by
    have s1 : SatH T B H hs ((k, v) :: (ks.zip vs ++ m)) := s
    have s2 : SatH T B H hs (ks.zip vs ++ ((.d k.frz, v) :: m)) := s1.freeze.perm List.perm_middle.symm
    exact (freezeL s2).perm List.perm_middle
theorem s_dct0 : PE X (.Dict [] [] pos) (tE T B Φ W (.dct [])) := pe_dnewK.pv fun σ H Q ⟨ρ, l, a, h⟩ => by
  have h : RG T B W σ l ((evL Φ [] ρ).bind fun os ρ => bnd (dicO (evens os) (odds os)) fun o => .ok o ρ) fun o ρ => ∀ v H, At T B H ρ σ ((o, v) :: l) → Q v H := by rw [ev] at h; exact h.rg
  rw [evL] at h
  have h : ∀ v H, At T B H ρ σ ((.dic [] [], v) :: l) → Q v H := h
  intro p hp
  exact h _ _ ⟨a.ok, ((SatH.alloc a.sat hp).closeD (ks := []) (os := []) (vs := []) (.inl ⟨[], rfl, upd_same, rfl⟩) rfl).perm List.perm_middle.symm, a.pr⟩
theorem pairs_eq : ∀ {ps : List (V × V)} {js : List Key}, ps.map (·.1) = js.map kV → js.length = ps.length → ps = (js.zip (ps.map (·.2))).map fun kv => (kV kv.1, kv.2)
  | [], [], _, _ => rfl
  | [], _ :: _, _, h => by simp at h
  | _ :: _, [], _, h => by simp at h
  | (k, v) :: ps, j :: js, e, h => by
    simp only [List.map_cons, List.cons.injEq] at e
    rw [List.map_cons, List.zip_cons_cons, List.map_cons, ← pairs_eq e.2 (by simpa using h), ← e.1]
/-- pe_disp, at the place where the dict is laid -/
theorem disp_at {keys : List (Option Expr)} {values : List Expr} {trs : List (TE × TE)} {p : Addr} {Q : VK} (h : PPs X pos keys values trs) (hall : keys.all (·.isSome) = true) (hl : keys.length = values.length) (h0 : keys ≠ []) (h15 : keys.length ≤ 15) (I : Inv X pins σ H s) (hp : s.heap.objs.size = p)
    (q : tPairs trs σ (upd H p (.dK [])) fun ps H2 => H2 p = some (.dK []) ∧ ∃ kvs : List (Key × V), ps = kvs.map (fun kv => (kV kv.1, kv.2)) ∧ kvs.length ≤ 15 ∧ Q (.ref p) (upd H2 p (.dK (mergeK [] kvs)))) : wpAny (model X.prog X.w) X.A (eval (.Dict keys values pos) X.env) (EP X pins σ Q) X.xe s := by
  subst hp
  have I1 := I.laid (a := s.heap.objs.size) (o := .dK []) (h' := s.heap.push { cls := .type "dict", data := .dict #[] }) (t' := s.toks) (fun _ _ q => Heap.get?_push_of_some _ q) (Nat.le_refl _) (dk_empty s.heap I.big)
  refine wpAny_Dict_walk (knd := mixKind X.prog X.w) hall hl h0 h15 (thn (h.run pins _ σ _ _ I1 q) fun ws s2 ⟨ps, H2, I2, rel, e, kvs, ep, lk, q2⟩ => ?_)
  subst ep
  obtain ⟨rs, c, rk⟩ := carries_of (P := X.prog) (w := X.w) rel
  obtain ⟨z, hd, vs0, r0, dd⟩ := dk_of I2.hok e
  cases r0
  refine ⟨rs, c, dd, fun h' dd' hs => ⟨.ref s.heap.objs.size, _, ?_, rfl, q2⟩⟩
  have hz : (mergeK [] kvs).length ≤ sizeLine := by
    have h1 := length_mergeK kvs []
    rw [List.length_nil] at h1
    rw [sizeLine_eq]; omega
  have he : ∃ q, h'.get? s.heap.objs.size = some q := let ⟨q, _, _, hq, _⟩ := dd'; ⟨q, hq⟩
  exact d_write I2 (by rw [e]; exact True.intro) hs he (dk_new hz hd (rk.merge .nil) dd')
theorem s_dct {kvs : List (SE × SE)} {keys : List (Option Expr)} {values : List Expr} (hp : ∀ B' : Base, B'.pr = B.pr → PPs X pos keys values (tPp T B' Φ W kvs)) (hall : keys.all (·.isSome) = true) (hl : keys.length = values.length) (h0 : keys ≠ []) (h15 : keys.length ≤ 15) :
    PE X (.Dict keys values pos) (tE T B Φ W (.dct (flatS kvs))) := by
  refine ⟨fun pins s σ H Q I h => ?_⟩
  obtain ⟨ρ, l, a, h⟩ := h
  have h : RG T B W σ l ((evL Φ (flatS kvs) ρ).bind fun os ρ => bnd (dicO (evens os) (odds os)) fun o => .ok o ρ) fun o ρ => ∀ v H, At T B H ρ σ ((o, v) :: l) → Q v H := by rw [ev] at h; exact h.rg
  generalize hsz : s.heap.objs.size = p
  have hn : H p = none := by rw [← hsz]; exact I.hok.fresh (Nat.le_refl s.heap.objs.size)
  have s0 : Sat T B (upd H p (.dK [])) ((.dic [] [], .ref p) :: (envIts ρ σ ++ l)) := (SatH.alloc a.sat hn).closeD (ks := []) (os := []) (vs := []) (.inl ⟨[], rfl, upd_same, rfl⟩) rfl
  obtain ⟨B', Fl, own, hZ, hpr, hr, sa, back⟩ := Sat.call (args := envIts ρ σ ++ l) (l := [(.dic [] [], .ref p)]) (s0.perm (by
    rw [← List.singleton_append]
    exact List.perm_append_comm))
  have hF : p ∈ Fl := by
    obtain ⟨F1, F2, rfl, ⟨b, vs, G, eb, e1, _⟩, _⟩ := hr
    injection eb with eb
    rw [e1, eb]; simp
  have nz : ¬ B.Z p := SatH.notZ a.sat hn
  have at' : At T B' (upd H p (.dK [])) ρ σ l := ⟨a.ok, sa, by rw [hpr]; exact a.pr⟩
  have back2 : ∀ {H' : Hp} {ρ' : Env} {m : List It1}, At T B' H' ρ' σ m → At T B H' ρ' σ ((.dic [] [], .ref p) :: m) ∧ H' p = some (.dK []) := fun {H' ρ' m} a' => by
    obtain ⟨s1, k⟩ := back H' _ a'.sat
    refine ⟨⟨a'.ok, s1.perm ?_, a.pr⟩, ?_⟩
    · rw [List.append_assoc]
      exact (List.perm_append_comm (l₁ := m)).append_left _
    · have := k _ hF
      rw [vw_free nz, vw_free nz, upd_same] at this
      exact this
  have hpp := hp B' hpr
  refine disp_at hpp hall hl h0 h15 I hsz (pairs_of at' (RG.held (o := .dic [] []) (v := .ref p) (fun q hq => a.pr q hq) (fun H' ρ' m a' => (back2 a').1) (RG.more1 h.bind) fun os ρ1 k1 ps H1 hlen a1 => ?_))
  obtain ⟨a2, e2⟩ := back2 a1
  obtain ⟨o, eo, k1⟩ := k1.bnd
  have k1 : ∀ v H, At T B H ρ1 σ ((o, v) :: l) → Q v H := k1
  obtain ⟨js, g1, g2, g3, rfl⟩ := dicO_of eo
  obtain ⟨f1, f2, f3⟩ := flat_perm hlen
  have s3 : Sat T B H1 ((evens os).zip (ps.map (·.1)) ++ ((odds os).zip (ps.map (·.2)) ++ ((.dic [] [], .ref p) :: (envIts ρ1 σ ++ l)))) := a2.sat.perm (by
    have p1 : (envIts ρ1 σ ++ ((O.dic [] [], V.ref p) :: (os.zip (flatV ps) ++ l))).Perm (os.zip (flatV ps) ++ ((O.dic [] [], V.ref p) :: (envIts ρ1 σ ++ l))) := by
      refine List.perm_middle.trans ?_
      refine (List.Perm.cons _ swap_its).trans List.perm_middle.symm
    refine p1.trans ?_
    rw [← List.append_assoc]
    exact f1.append_right _)
  have s4 := freezeL s3
  obtain ⟨F, r, _, _⟩ := s4.reps
  obtain ⟨F1, F2, _, r1, _⟩ := Reps.split r
  have d1 := (reps_d (by rw [List.length_map, List.length_map]; exact f2) r1).2
  have ek : ps.map (·.1) = js.map kV := keys_vals g1 d1
  refine ⟨e2, js.zip (ps.map (·.2)), ?_, ?_, ?_⟩
  · have hjl : js.length = ps.length := by
      have := congrArg List.length ek
      simpa using this.symm
    exact pairs_eq ek hjl
  · rw [List.length_zip]; omega
  · have hjl : js.length = (ps.map (·.2)).length := by
      have := congrArg List.length ek
      simp only [List.length_map] at this ⊢
      omega
    have em : mergeK [] (js.zip (ps.map (·.2))) = js.zip (ps.map (·.2)) := by
      have := merge_nodup (acc := []) hjl g2 (fun _ _ kv hkv => by cases hkv)
      simpa [mergeK] using this
    rw [em]
    refine k1 _ _ ⟨a2.ok, ?_, a2.pr⟩
    have s5 : Sat T B H1 ((.dic [] [], .ref p) :: ((odds os).zip (ps.map (·.2)) ++ (envIts ρ1 σ ++ l))) := (SatH.dropL s3).perm List.perm_middle
    obtain ⟨b, ws, eb, hb, hw, s6⟩ := SatH.openD s5
    injection eb with eb
    subst eb
    have ne : (∀ xs, H1 p ≠ some (.tup xs)) ∧ ∀ ob u, H1 p ≠ some (.frz ob u) := ⟨(fun xs z => by rw [e2] at z; cases z), (fun ob u z => by rw [e2] at z; cases z)⟩
    have s7 : SatH T B (upd H1 p (.dK (js.zip (ps.map (·.2))))) [p] ((odds os).zip (ps.map (·.2)) ++ (envIts ρ1 σ ++ l)) := by
      have s6' : SatH T B H1 [p] ((odds os).zip (ps.map (·.2)) ++ (envIts ρ1 σ ++ l)) := by
        have : ws = [] := by
          have : ws.length = 0 := by simpa using hw.symm
          exact List.eq_nil_of_length_eq_zero this
        subst this
        exact s6
      exact s6'.write ne.1 ne.2
    exact (s7.closeD (.inl ⟨js, g1, upd_same, hjl⟩) (by rw [List.length_map]; exact f3)).perm List.perm_middle.symm
end
end PV
/-! PV27: a def's promise from its body; slots that stay -/
namespace PV
open PySem PySem.Spec PyProof.Rows L2
/-! ### slots that stay -/
def PrIn (B : Base) (L : List Nat) : Prop := ∀ p ∈ B.pr, p.1 ∈ L
theorem PrIn.ne {B : Base} {L : List Nat} {i : Nat} (h : PrIn B L) (hi : L.contains i = false) : ∀ p ∈ B.pr, p.1 ≠ i := fun p hp e => by
  have : L.contains i = true := List.contains_iff_mem.mpr (e ▸ h p hp)
  rw [hi] at this; cases this
theorem PrIn.nin {B : Base} {L own : List Nat} (h : PrIn B L) (hi : (L.all fun i => !own.contains i) = true) : ∀ p ∈ B.pr, p.1 ∉ own := fun p hp e => by
  have := List.all_eq_true.mp hi _ (h p hp)
  have h2 : own.contains p.1 = true := List.contains_iff_mem.mpr e
  rw [h2] at this; cases this
theorem PrIn.eq {B B' : Base} {L : List Nat} (h : PrIn B L) (e : B'.pr = B.pr) : PrIn B' L := fun p hp => h p (by rw [← e]; exact hp)
def argSlots : SE → List Nat
  | .var i => [i]
  | _ => []
def iSlots : IE → List Nat
  | .of e => argSlots e
  | .enum e => argSlots e
  | .zip a b => argSlots a ++ argSlots b
  | .items e => argSlots e
  | .vals e => argSlots e
  | .rev e => argSlots e
  | .range _ => []
  | .keys _ => []
section
variable {Φ : Phi}
theorem evA_frz {a : SE} {ρ : Env} : evA Φ (.frz a) ρ = (ev Φ (.frz a) ρ).bind fun o ρ => .ok (.val o) ρ := by
  rw [evA]; intro i z; cases z
theorem evA_slots {se : SE} {ρ ρ' : Env} {a : Arg} (e : evA Φ se ρ = .ok a ρ') : ∀ i, Arg.slot i = a → i ∈ argSlots se := by
  intro i hi
  subst hi
  have val : ∀ {se : SE}, (∀ i, se ≠ .var i) → evA Φ se ρ = (ev Φ se ρ).bind fun o ρ => Res.ok (Arg.val o) ρ := by
    intro se h
    cases se <;> first | (exact absurd rfl (h _)) | (rw [evA]; intro i; exact h i)
  cases se with
  | var j =>
    rw [evA] at e
    cases q : slotE ρ j with
    | none => rw [q] at e; cases e
    | some o =>
      rw [q] at e
      injection e with e1 _
      injection e1 with e1
      subst e1
      exact List.mem_singleton.mpr rfl
  | _ =>
    rw [val (by intro i z; cases z)] at e
    obtain ⟨o, ρ1, _, e⟩ := Res.bind_of e
    injection e with e1 _
    cases e1
theorem evI_ok {ie : IE} {ρ ρ' : Env} {p : List Arg × List O × List D} (e : evI Φ ie ρ = .ok p ρ') : (∀ i, Arg.slot i ∈ p.1 → i ∈ iSlots ie) ∧ p.1.length = p.2.1.length := by
  have bnd_of : ∀ {α β : Type} {o : Option α} {f : α → Res β} {b : β} {ρ' : Env}, bnd o f = .ok b ρ' → ∃ a, o = some a ∧ f a = .ok b ρ' := by
    intro α β o f b ρ' h
    cases o with
    | none => cases h
    | some a => exact ⟨a, rfl, h⟩
  cases ie with
  | of se =>
    rw [evI] at e
    obtain ⟨a, ρ1, e1, e⟩ := Res.bind_of e
    obtain ⟨o, ρ2, e2, e⟩ := Res.bind_of e
    obtain ⟨ds, ρ3, e3, e⟩ := Res.bind_of e
    injection e with e _
    subst e
    refine ⟨fun i hi => evA_slots e1 i (List.mem_singleton.mp hi), rfl⟩
  | range es =>
    rw [evI] at e
    obtain ⟨a, ρ1, e1, e⟩ := Res.bind_of e
    obtain ⟨ds, ρ3, e3, e⟩ := Res.bind_of e
    injection e with e _
    subst e
    exact ⟨(fun i hi => by cases hi), rfl⟩
  | keys i =>
    rw [evI] at e
    obtain ⟨a, e1, e⟩ := bnd_of e
    obtain ⟨ds, e2, e⟩ := bnd_of e
    injection e with e _
    subst e
    exact ⟨(fun i hi => by cases hi), rfl⟩
  | enum se =>
    rw [evI] at e
    obtain ⟨a, ρ1, e1, e⟩ := Res.bind_of e
    obtain ⟨o, ρ2, e2, e⟩ := Res.bind_of e
    obtain ⟨ds, ρ3, e3, e⟩ := Res.bind_of e
    injection e with e _
    subst e
    refine ⟨fun i hi => evA_slots e1 i (List.mem_singleton.mp hi), rfl⟩
  | zip sa sb =>
    rw [evI] at e
    obtain ⟨a, ρ1, e1, e⟩ := Res.bind_of e
    obtain ⟨b, ρ2, e2, e⟩ := Res.bind_of e
    obtain ⟨o, ρ3, e3, e⟩ := Res.bind_of e
    obtain ⟨o2, ρ4, e4, e⟩ := Res.bind_of e
    obtain ⟨ds, ρ5, e5, e⟩ := Res.bind_of e
    injection e with e _
    subst e
    refine ⟨fun i hi => ?_, rfl⟩
    rcases List.mem_cons.mp hi with h | h
    · exact List.mem_append_left _ (evA_slots e1 i h)
    · exact List.mem_append_right _ (evA_slots e2 i (List.mem_singleton.mp h))
  | items se => rw [evI] at e; cases e
  | vals se => rw [evI] at e; cases e
  | rev se => rw [evI] at e; cases e
end
section
variable {T : Tab} {B : Base} {Φ : Phi} {W : WX} {X : Cx} {L : List Nat}
theorem st_forP {tg iter : Expr} {body : List Stmt} {t : Tg} {ie : IE} {sb : List SS} {pos : Pos} (pr : PrIn B L) (hp : PassesOwn (model X.prog X.w) X.A X.env X.xe) (hc : X.calm = true) (hi : PI X tg iter (tI T B Φ W ie)) (hg : ∀ B' : Base, PrIn B' (iSlots ie ++ L) → PG X tg (gT T B' t))
    (hb : ∀ B' : Base, PrIn B' (iSlots ie ++ L) → PSs X body (tSs T B' Φ W sb)) (hs : ∀ x, foldedSetIterable iter X.env x = pure x) : PS X (.For tg iter body [] pos) (tS T B Φ W (.for t ie sb)) :=
  st_for (iSlots ie) (fun ρ p ρ' e => (evI_ok e).1) (fun ρ p ρ' e => (evI_ok e).2) hp hc hi (fun B' c => hg B' fun p hp => List.mem_append.mpr ((c p hp).elim (fun z => .inr (pr p z)) .inl)) (fun B' c => hb B' fun p hp => List.mem_append.mpr ((c p hp).elim (fun z => .inr (pr p z)) .inl)) hs
theorem s_compP {elt tg iter : Expr} {ifs : List Expr} {scope : Scope} {own : List (Str × Nat)} {t : Tg} {ie : IE} {se : SE} {sifs : List SE} {pos : Pos}
    (pr : PrIn B L) (hc : X.calm = true) (hN : X.N.Nodup) (nd : (own.map (·.2)).Nodup) (hp : (L.all fun i => !(own.map (·.2)).contains i) = true) (htg : ∀ i ∈ tgSlots t, i ∈ own.map (·.2))
    (hi : PI X tg iter (tI T B Φ W ie)) (ok : BlkOk X.N X.env.scope scope own)
    (hg : ∀ (s : Shared) (H : Hp) (C : Addr) (cl : List (Str × Addr)) (fp : List Addr), PG (X.blk s H scope (compEnvC scope cl C X.env) fp) tg (gT T B t))
    (ht : ∀ (s : Shared) (H : Hp) (C : Addr) (cl : List (Str × Addr)) (fp : List Addr), PTs (X.blk s H scope (compEnvC scope cl C X.env) fp) ifs (tTs T B Φ sifs))
    (he : ∀ (s : Shared) (H : Hp) (C : Addr) (cl : List (Str × Addr)) (fp : List Addr), PE (X.blk s H scope (compEnvC scope cl C X.env) fp) elt (tE T B Φ WF se)) (hs : ∀ x, foldedSetIterable iter X.env x = pure x) :
    PE X (.ListComp elt [⟨tg, iter, ifs, 0⟩] scope pos) (tE T B Φ W (.comp .lst se (own.map (·.2)) t ie sifs)) :=
  s_comp (fun ρ p ρ' e => (evI_ok e).2) hc hN nd (pr.nin hp) htg hi ok hg ht he hs
theorem st_never {st : Stmt} : PS X st (tS T B Φ W .never) := ⟨fun pins s σ H D I ⟨ρ, l, a, h⟩ => by rw [evS] at h; exact h.elim⟩
theorem sts_never {st : List Stmt} : PSs X st (tSs T B Φ W [.never]) := ⟨fun pins s σ H D I ⟨ρ, l, a, h⟩ => by rw [evSs, evS] at h; exact h.elim⟩
theorem s_never {e : Expr} : PE X e (tE T B Φ W .never) := ⟨fun pins s σ H Q I ⟨ρ, l, a, h⟩ => by rw [ev] at h; exact h.elim⟩
theorem st_nop {st : Stmt} (h : PS X st tNext) : PS X st (tS T B Φ W .pass) := h.pv fun D σ H ⟨ρ, l, at_, h⟩ => by
  rw [evS] at h
  exact h σ H at_
end
/-! ### a def -/
/-- n arguments; what may be owned stands in a slot of L -/
def okArgs (L : List Nat) : Nat → List O → Bool
  | _, [] => true
  | i, .d _ :: r => okArgs L (i + 1) r
  | i, _ :: r => L.contains i && okArgs L (i + 1) r
theorem okArgs_in {L : List Nat} : ∀ {os : List O} {n i : Nat} {o : O}, okArgs L n os = true → os[i]? = some o → plainO o = none → n + i ∈ L
  | [], n, i, o, _, h, _ => by simp at h
  | a :: os, n, i, o, e, h, hp => by
    have e' : okArgs L (n + 1) os = true ∧ (plainO a = none → n ∈ L) := by
      cases a with
      | d x => exact ⟨e, fun z => by cases z⟩
      | tup xs => have e : (L.contains n && okArgs L (n + 1) os) = true := e; rw [Bool.and_eq_true] at e; exact ⟨e.2, fun _ => List.contains_iff_mem.mp e.1⟩
      | lst xs => have e : (L.contains n && okArgs L (n + 1) os) = true := e; rw [Bool.and_eq_true] at e; exact ⟨e.2, fun _ => List.contains_iff_mem.mp e.1⟩
      | dic ks xs => have e : (L.contains n && okArgs L (n + 1) os) = true := e; rw [Bool.and_eq_true] at e; exact ⟨e.2, fun _ => List.contains_iff_mem.mp e.1⟩
      | obj C ns xs => have e : (L.contains n && okArgs L (n + 1) os) = true := e; rw [Bool.and_eq_true] at e; exact ⟨e.2, fun _ => List.contains_iff_mem.mp e.1⟩
    cases i with
    | zero =>
      simp at h
      subst h
      exact e'.2 hp
    | succ i =>
      have := okArgs_in (i := i) e'.1 (by simpa using h) hp
      rw [show n + (i + 1) = n + 1 + i by omega]
      exact this
noncomputable def runD (Φ : Phi) (ss : List SS) (n m : Nat) (L : List Nat) (args : List O) : FRes :=
  if args.length = n ∧ okArgs L 0 args = true then runF Φ ss m args else .bad
section
variable {T : Tab} {B : Base} {H : Hp} {l m : List It1}
def plainIts : List O → List V → List It1
  | .d x :: os, v :: vs => (.d x, v) :: plainIts os vs
  | _ :: os, _ :: vs => plainIts os vs
  | _, _ => []
theorem dupL : ∀ {os : List O} {vs : List V} {m : List It1}, SatH T B H [] (os.zip vs ++ m) → SatH T B H [] (os.zip vs ++ (plainIts os vs ++ m))
  | [], vs, m, s => by cases vs <;> exact s
  | o :: os, [], m, s => by cases o <;> exact s
  | o :: os, v :: vs, m, s => by
    have s : SatH T B H [] ((o, v) :: (os.zip vs ++ m)) := s
    have again : ∀ {m' : List It1}, SatH T B H [] (os.zip vs ++ m') → SatH T B H [] (os.zip vs ++ (plainIts os vs ++ m')) := fun s => dupL s
    cases o with
    | d x =>
      have s1 : SatH T B H [] (os.zip vs ++ ((.d x, v) :: (.d x, v) :: m)) := s.dup.perm (by
        have p1 : ((O.d x, v) :: (O.d x, v) :: (os.zip vs ++ m)).Perm (os.zip vs ++ ((O.d x, v) :: (O.d x, v) :: m)) := (List.Perm.cons _ List.perm_middle.symm).trans List.perm_middle.symm
        exact p1)
      have s2 := again s1
      refine s2.perm ?_
      show (os.zip vs ++ (plainIts os vs ++ ((O.d x, v) :: (O.d x, v) :: m))).Perm ((O.d x, v) :: (os.zip vs ++ ((O.d x, v) :: (plainIts os vs ++ m))))
      have p1 : (plainIts os vs ++ ((O.d x, v) :: (O.d x, v) :: m)).Perm ((O.d x, v) :: (O.d x, v) :: (plainIts os vs ++ m)) := List.perm_middle.trans (List.perm_middle.cons _)
      exact (p1.append_left _).trans List.perm_middle
    | tup xs =>
      have s2 := again (s.perm List.perm_middle.symm)
      refine s2.perm ?_
      show (os.zip vs ++ (plainIts os vs ++ ((O.tup xs, v) :: m))).Perm ((O.tup xs, v) :: (os.zip vs ++ (plainIts os vs ++ m)))
      exact (List.perm_middle.append_left _).trans List.perm_middle
    | lst xs =>
      have s2 := again (s.perm List.perm_middle.symm)
      refine s2.perm ?_
      show (os.zip vs ++ (plainIts os vs ++ ((O.lst xs, v) :: m))).Perm ((O.lst xs, v) :: (os.zip vs ++ (plainIts os vs ++ m)))
      exact (List.perm_middle.append_left _).trans List.perm_middle
    | dic ks xs =>
      have s2 := again (s.perm List.perm_middle.symm)
      refine s2.perm ?_
      show (os.zip vs ++ (plainIts os vs ++ ((O.dic ks xs, v) :: m))).Perm ((O.dic ks xs, v) :: (os.zip vs ++ (plainIts os vs ++ m)))
      exact (List.perm_middle.append_left _).trans List.perm_middle
    | obj C ns xs =>
      have s2 := again (s.perm List.perm_middle.symm)
      refine s2.perm ?_
      show (os.zip vs ++ (plainIts os vs ++ ((O.obj C ns xs, v) :: m))).Perm ((O.obj C ns xs, v) :: (os.zip vs ++ (plainIts os vs ++ m)))
      exact (List.perm_middle.append_left _).trans List.perm_middle
theorem env_start : ∀ {os : List O} {vs : List V} {k : Nat}, os.length = vs.length → EnvOk (os.map some ++ List.replicate k none) (vs.map some ++ List.replicate k none) ∧ envIts (os.map some ++ List.replicate k none) (vs.map some ++ List.replicate k none) = os.zip vs
  | [], [], 0, _ => ⟨trivial, rfl⟩
  | [], [], k + 1, _ => by
    obtain ⟨h1, h2⟩ := env_start (os := []) (vs := []) (k := k) rfl
    exact ⟨h1, h2⟩
  | o :: os, v :: vs, k, h => by
    obtain ⟨h1, h2⟩ := env_start (os := os) (vs := vs) (k := k) (by simpa using h)
    refine ⟨h1, ?_⟩
    show (o, v) :: envIts (os.map some ++ List.replicate k none) (vs.map some ++ List.replicate k none) = (o, v) :: os.zip vs
    rw [h2]
  | [], _ :: _, _, h => by simp at h
  | _ :: _, [], _, h => by simp at h
theorem ios_sat : ∀ {os : List O} {vs : List V} {ρ : Env} {σ : L2.St} {ios : List O} {m : List It1}, EnvOk ρ σ → os.length = vs.length → iosOf os ρ = some ios → (∀ (i : Nat) o v, os[i]? = some o → plainO o = none → vs[i]? = some v → σ[i]? = some (some v)) →
    SatH T B H [] (envIts ρ σ ++ (plainIts os vs ++ m)) → ios.length = vs.length ∧ SatH T B H [] (ios.zip vs ++ m)
  | [], [], ρ, σ, ios, m, _, _, e, _, s => by
    injection e with e
    subst e
    exact ⟨rfl, SatH.dropL s⟩
  | [], _ :: _, _, _, _, _, _, h, _, _, _ => by simp at h
  | _ :: _, [], _, _, _, _, _, h, _, _, _ => by simp at h
  | o :: os, v :: vs, ρ, σ, ios, m, ek, hl, e, hp, s => by
    have hp' : ∀ (i : Nat) o' v', os[i]? = some o' → plainO o' = none → vs[i]? = some v' → (σ.drop 1)[i]? = some (some v') := fun i o' v' h1 h2 h3 => by
      rw [List.getElem?_drop, Nat.add_comm]
      exact hp (i + 1) o' v' (by simpa using h1) h2 (by simpa using h3)
    have own : (∀ x, o ≠ .d x) → ∃ o' ρ' ios', ρ = some o' :: ρ' ∧ iosOf os ρ' = some ios' ∧ ios = o' :: ios' ∧ plainIts (o :: os) (v :: vs) = plainIts os vs ∧ plainO o = none := by
      intro hx
      cases ρ with
      | nil => cases o <;> first | exact absurd rfl (hx _) | cases e
      | cons a ρ' =>
        cases a with
        | none => cases o <;> first | exact absurd rfl (hx _) | cases e
        | some o' =>
          have e' : (iosOf os ρ').map (o' :: ·) = some ios := by cases o <;> first | exact absurd rfl (hx _) | exact e
          obtain ⟨ios', e1, e2⟩ := Option.map_eq_some_iff.mp e'
          refine ⟨o', ρ', ios', rfl, e1, e2.symm, ?_, ?_⟩ <;> cases o <;> first | exact absurd rfl (hx _) | rfl
    have go2 : (∀ x, o ≠ .d x) → ios.length = (v :: vs).length ∧ SatH T B H [] (ios.zip (v :: vs) ++ m) := fun hx => by
      obtain ⟨o', ρ', ios', rfl, e1, rfl, e3, e4⟩ := own hx
      have h0 := hp 0 o v rfl e4 rfl
      cases σ with
      | nil => cases h0
      | cons a σ' =>
        simp at h0
        subst h0
        rw [e3] at s
        have s1 : SatH T B H [] ((o', v) :: (envIts ρ' σ' ++ (plainIts os vs ++ m))) := s
        have s2 : SatH T B H [] (envIts ρ' σ' ++ (plainIts os vs ++ ((o', v) :: m))) := s1.perm (by
          rw [← List.append_assoc, ← List.append_assoc]
          exact List.perm_middle.symm)
        obtain ⟨h1, h2⟩ := ios_sat (os := os) (vs := vs) (ρ := ρ') (σ := σ') ek (by simpa using hl) e1 hp' s2
        exact ⟨by simp [h1], h2.perm List.perm_middle⟩
    cases o with
    | d x =>
      have e : (iosOf os (ρ.drop 1)).map (.d x :: ·) = some ios := e
      obtain ⟨ios', e1, e2⟩ := Option.map_eq_some_iff.mp e
      subst e2
      have s0 : SatH T B H [] (envIts ρ σ ++ ((.d x, v) :: (plainIts os vs ++ m))) := s
      have ek' : EnvOk (ρ.drop 1) (σ.drop 1) ∧ ∃ pre, envIts ρ σ = pre ++ envIts (ρ.drop 1) (σ.drop 1) := by
        cases ρ with
        | nil => cases σ with
          | nil => exact ⟨trivial, [], rfl⟩
          | cons _ _ => exact ek.elim
        | cons a ρ' => cases σ with
          | nil => cases a <;> exact ek.elim
          | cons b σ' =>
            cases a with
            | none => exact ⟨by cases b <;> exact ek, [], by cases b <;> rfl⟩
            | some o' => cases b with
              | none => exact ek.elim
              | some w => exact ⟨ek, [(o', w)], rfl⟩
      obtain ⟨ek', pre, ep⟩ := ek'
      rw [ep] at s0
      have s1 : SatH T B H [] (pre ++ (envIts (ρ.drop 1) (σ.drop 1) ++ (plainIts os vs ++ ((.d x, v) :: m)))) := s0.perm (by
        rw [List.append_assoc]
        refine List.Perm.append_left _ (List.Perm.append_left _ ?_)
        exact List.perm_middle.symm)
      obtain ⟨h1, h2⟩ := ios_sat (os := os) (vs := vs) ek' (by simpa using hl) e1 hp' (SatH.dropL s1)
      exact ⟨by simp [h1], h2.perm List.perm_middle⟩
    | tup xs => exact go2 fun x z => nomatch z
    | lst xs => exact go2 fun x z => nomatch z
    | dic ks xs => exact go2 fun x z => nomatch z
    | obj C ns xs => exact go2 fun x z => nomatch z
end
def prAt (vs : List V) : List Nat → List (Nat × V)
  | [] => []
  | i :: r => match vs[i]? with
    | some v => (i, v) :: prAt vs r
    | none => prAt vs r
theorem prAt_in {vs : List V} : ∀ {L : List Nat} {p : Nat × V}, p ∈ prAt vs L → p.1 ∈ L ∧ vs[p.1]? = some p.2
  | [], p, h => by cases h
  | i :: r, p, h => by
    unfold prAt at h
    cases e : vs[i]? with
    | none =>
      rw [e] at h
      obtain ⟨h1, h2⟩ := prAt_in h
      exact ⟨List.mem_cons_of_mem _ h1, h2⟩
    | some v =>
      rw [e] at h
      rcases List.mem_cons.mp h with rfl | h
      · exact ⟨List.mem_cons_self, e⟩
      · obtain ⟨h1, h2⟩ := prAt_in h
        exact ⟨List.mem_cons_of_mem _ h1, h2⟩
theorem in_prAt {vs : List V} : ∀ {L : List Nat} {i : Nat} {v : V}, i ∈ L → vs[i]? = some v → (i, v) ∈ prAt vs L
  | [], i, v, h, _ => by cases h
  | j :: r, i, v, h, e => by
    unfold prAt
    rcases List.mem_cons.mp h with rfl | h
    · rw [e]; exact List.mem_cons_self
    · cases e2 : vs[j]? with
      | none => exact in_prAt h e
      | some w => exact List.mem_cons_of_mem _ (in_prAt h e)
theorem fn_pv {T : Tab} {Φ : Phi} {P : Program} {w : World} {K : PySem.W.Frag} {mg : Str → Option Value} {base : Heap} {x qual : Str} {params : Arguments} {body : List Stmt} {scope : Scope} {dvs : List V} {kws : List (Str × V)} {f : Addr} {fd : FuncData} {N ps : List Str} {k : Nat} {ss : List SS} {L : List Nat}
    (F : FunD K x qual params body scope dvs kws f fd) (S : FnScope N ps scope)
    (hb : ∀ (cdv : Value) (A : Around) (outer : List PySem.Env) (s : Shared) (H : Hp) (E : XK) (B : Base), PrIn B L → Room k (A.deeper (envOfC qual scope s.heap.objs.size f cdv)) → PSs (cxOf (L2.CX P w) P w K mg base N qual scope f cdv A outer s H E) body (tSs T B Φ (fun cls d _ H => E cls d H) ss)) :
    FnOk P w K mg base (L2.CX P w) (k + 1) f fd ps (spOf T (runD Φ ss ps.length N.length L)) := by
  have use : ∀ {vs H Q E}, spOf T (runD Φ ss ps.length N.length L) vs H Q E → ∃ (B : Base) (os : List O) (l : List It1), os.length = vs.length ∧ vs.length = ps.length ∧ Sat T B H (os.zip vs ++ l) ∧ (∀ i o, os[i]? = some o → plainO o = none → i ∈ L) ∧ SpEnd T B (runF Φ ss N.length os) vs l Q E := by
    intro vs H Q E ⟨B, os, l, hl, s, e⟩
    unfold runD at e
    by_cases h : os.length = ps.length ∧ okArgs L 0 os = true
    · rw [if_pos h] at e
      exact ⟨B, os, l, hl, by rw [← hl]; exact h.1, s, (fun i o h1 h2 => by have := okArgs_in h.2 h1 h2; simpa using this), e⟩
    · rw [if_neg h] at e; exact e.elim
  refine F.ok S (fun vs H Q E h => ?_) (fun cdv A outer s H vs Q E hr h => ?_)
  · obtain ⟨B, os, l, h1, h2, _⟩ := use h
    exact h2
  · obtain ⟨B, os, l, h1, h2, sa, hL, en⟩ := use h
    refine ⟨_, hb cdv A outer s H E { B with pr := prAt vs L } (fun p hp => (prAt_in hp).1) hr, ?_⟩
    have sa' : Sat T { B with pr := prAt vs L } H (os.zip vs ++ (plainIts os vs ++ l)) := ⟨(dupL sa).lk, (dupL sa).old, (dupL sa).oth, (dupL sa).io, (dupL sa).reps⟩
    obtain ⟨e1, e2⟩ := env_start (os := os) (vs := vs) (k := N.length - vs.length) h1
    refine ⟨os.map some ++ List.replicate (N.length - os.length) none, plainIts os vs ++ l, ⟨?_, ?_, ?_⟩, ?_⟩
    · rw [h1]; exact e1
    · rw [h1]
      show Sat _ _ _ (envIts _ (vs.map some ++ List.replicate (N.length - vs.length) none) ++ _)
      rw [e2]
      exact sa'
    · intro p hp
      obtain ⟨_, q⟩ := prAt_in hp
      show (vs.map some ++ List.replicate (N.length - vs.length) none)[p.1]? = _
      have hi := (List.getElem?_eq_some_iff.mp q).1
      rw [List.getElem?_append_left (by simpa using hi), List.getElem?_map, q]; rfl
    · unfold runF at en
      have back : ∀ {ρ : Env} {σ : L2.St} {H' : Hp} {ios : List O} {m : List It1}, iosOf os ρ = some ios → At T { B with pr := prAt vs L } H' ρ σ (m ++ (plainIts os vs ++ l)) → ios.length = vs.length ∧ Sat T B H' (m ++ (ios.zip vs ++ l)) := by
        intro ρ σ H' ios m ei a
        have s1 : Sat T B H' (envIts ρ σ ++ (m ++ (plainIts os vs ++ l))) := ⟨a.sat.lk, a.sat.old, a.sat.oth, a.sat.io, a.sat.reps⟩
        obtain ⟨g1, g2⟩ := ios_sat (os := os) (vs := vs) (m := m ++ l) a.ok h1 ei (fun i o v q1 q2 q3 => a.pr (i, v) (in_prAt (hL i o q1 q2) q3)) (s1.perm (List.Perm.append_left _ swap_its))
        exact ⟨g1, SatH.perm g2 swap_its⟩
      generalize evSs Φ ss (os.map some ++ List.replicate (N.length - os.length) none) = r at en
      cases r with
      | bad => exact en.elim
      | exc C p ρ =>
        unfold Res.done at en
        cases ei : iosOf os ρ with
        | none => simp only [ei] at en; exact en.elim
        | some ios =>
          simp only [ei] at en
          intro σ d H' its a e
          obtain ⟨g1, g2⟩ := back ei a
          exact en d H' its g1 g2 e
      | ok fl ρ =>
        cases fl with
        | bk => exact en.elim
        | ct => exact en.elim
        | nx =>
          unfold Res.done at en
          cases ei : iosOf os ρ with
          | none => simp only [ei] at en; exact en.elim
          | some ios =>
            simp only [ei] at en
            intro σ H' a
            obtain ⟨g1, g2⟩ := back (m := []) ei a
            exact en .non H' g1 (SatH.non g2)
        | rt o =>
          unfold Res.done at en
          cases ei : iosOf os ρ with
          | none => simp only [ei] at en; exact en.elim
          | some ios =>
            simp only [ei] at en
            intro σ v H' a
            obtain ⟨g1, g2⟩ := back (m := [(o, v)]) ei a
            exact en v H' g1 g2
end PV
/-! PV28: parts read without letting go of the rest -/
namespace PV
open PySem PySem.Spec PyProof.Rows L2
section
variable {T : Tab} {B : Base} {Φ : Phi} {W : WX} {X : Cx} {σ : L2.St} {l m : List It1} {H H' : Hp} {ρ : Env} {pins : List (Addr × Obj)} {s : Shared} {e a b : Expr} {pos : Pos} {sa sb : SE} {hs : List Addr} {o : O} {v w : V}
theorem ixBackL_len {k : D} {r : O} : ∀ {os : List O}, (ixBackL k r os).length = os.length
  | [] => rfl
  | o :: os => by simp [ixBackL]
def relX (T : Tab) (B : Base) (f : List D → Option O) (kf : List D → D) (xs : List V) (H : Hp) (Q : VK) : Prop := ∃ (os : List O) (l : List It1) (r : O), os.length = xs.length ∧ Sat T B H (os.zip xs ++ l) ∧ f (os.map O.frz) = some r ∧
  ∀ u H', Sat T B H' ((r, u) :: ((ixBackL (kf (os.map O.frz)) r os).zip xs ++ l)) → Q u H'
theorem opX_ok {f : List D → Option O} {kf : List D → D} {as : List Arg} {vs : List V} {W : WX} {Q : VK} (s : At T B H ρ σ (argItsL as vs ++ l)) (av : ArgVs σ as vs) (h : RP T B W σ l (opX f kf as ρ) Q) : relX T B f kf vs H Q := by
  unfold opX at h
  cases e : fetchL as ρ with
  | exc C p ρ1 => exact (fetchL_exc e).elim
  | bad => rw [e] at h; exact h.elim
  | ok os ρ1 =>
    rw [e] at h
    obtain ⟨hl, s1⟩ := fetchL_at s av e
    have h : RP T B W σ l ((Res.of (f (os.map O.frz)) ρ1).bind fun r ρ => .ok r (backL as (ixBackL (kf (os.map O.frz)) r os) ρ)) Q := h
    cases er : f (os.map O.frz) with
    | none => rw [er] at h; exact h.elim
    | some r =>
      rw [er] at h
      refine ⟨os, envIts ρ1 σ ++ l, r, hl, s1.sat.perm swap_its, er, fun u H' q => ?_⟩
      have h : ∀ v H, At T B H (backL as (ixBackL (kf (os.map O.frz)) r os) ρ1) σ ((r, v) :: l) → Q v H := h
      refine h u H' (backL_at (os := ixBackL (kf (os.map O.frz)) r os) (vs := vs) (by rw [ixBackL_len]; exact hl) ⟨s1.ok, q.perm ?_, s1.pr⟩ av)
      generalize (ixBackL (kf (os.map O.frz)) r os).zip vs = z
      have p1 : ((r, u) :: (z ++ (envIts ρ1 σ ++ l))).Perm (z ++ (r, u) :: (envIts ρ1 σ ++ l)) := List.perm_middle.symm
      have p2 : (z ++ (r, u) :: (envIts ρ1 σ ++ l)).Perm (z ++ (envIts ρ1 σ ++ (r, u) :: l)) := List.perm_middle.symm.append_left z
      exact p1.trans (p2.trans swap_its)
theorem scal_lit {d : D} {T : Tab} {own : Addr → Prop} {h : Hp} (e : scalD d = true) (x : Dr T own h d w) : ∀ own' h', Dr T own' h' d w := by
  cases d <;> first | exact fun _ _ => x | cases e
/-- the part d at w, and what is left -/
theorem ix_back {k d : D} (s : SatH T B H hs ((o, v) :: m)) (full : SatH T B H hs ((.d d, w) :: (o.shal, v) :: m)) (hst : ∀ y g, stepO o k = some (y, g) → StepAt T (vw B.Z H) v k w ∧ y.frz = d) : SatH T B H hs ((.d d, w) :: (ixBack o k (.d d), v) :: m) := by
  unfold ixBack
  by_cases hc : scalO (.d d) = true
  · rw [if_pos hc]
    exact s.lit (scal_lit hc full.read)
  · rw [if_neg hc]
    cases e : stepO o k with
    | none => exact full
    | some p =>
      obtain ⟨y, g⟩ := p
      obtain ⟨st, ey⟩ := hst y g e
      obtain ⟨a, w', rest, rfl, st', s1, back⟩ := step_open s e
      obtain rfl := st.inj st'
      have s2 := s1.freeze.dup
      rw [ey] at s2
      have s3 : SatH T B H (a :: hs) ((.d d, w) :: (rest ++ ((.d d, w) :: m))) := s2.perm ((List.perm_middle.symm).cons _)
      have s4 := back H (.d d) ((.d d, w) :: m) rfl s3
      show SatH T B H hs ((.d d, w) :: (g (.d y.frz), .ref a) :: m)
      rw [ey]
      exact s4.perm (.swap _ _ _)
theorem frzL_get : ∀ {xs : List O} {j : Nat} {y : O}, xs[j]? = some y → (O.frzL xs)[j]? = some y.frz := by
  intro xs j y e
  rw [frzL_map, List.getElem?_map, e]; rfl
theorem dget_inj {p : Addr} {y z1 z2 : V} (a : DGet H p y (some z1)) (b : DGet H p y (some z2)) : z1 = z2 := by
  have rd : ∀ {u u' : HO}, Rd H p u → Rd H p u' → (∀ o w, u ≠ .frz o w) → (∀ o w, u' ≠ .frz o w) → u = u' := by
    intro u u' h1 h2 n1 n2
    rcases h1 with h1 | ⟨o, h1⟩ <;> rcases h2 with h2 | ⟨o', h2⟩ <;> rw [h1] at h2 <;> injection h2 with h2
    · exact (n1 _ _ h2).elim
    · exact (n2 _ _ h2.symm).elim
    · injection h2
  rcases a with ⟨kvs, k, r1, e1, e2⟩ | ⟨kvs, k, c, r1, e1, c1, e2⟩ <;> rcases b with ⟨kvs', k', r1', e1', e2'⟩ | ⟨kvs', k', c', r1', e1', c1', e2'⟩
  · have := rd r1 r1' (fun _ _ z => nomatch z) (fun _ _ z => nomatch z)
    injection this with this
    subst this
    rw [e1] at e1'
    rw [kV_inj e1'] at e2
    rw [← e2] at e2'
    exact (Option.some.inj e2').symm
  · have := rd r1 r1' (fun _ _ z => nomatch z) (fun _ _ z => nomatch z); cases this
  · have := rd r1 r1' (fun _ _ z => nomatch z) (fun _ _ z => nomatch z); cases this
  · have := rd r1 r1' (fun _ _ z => nomatch z) (fun _ _ z => nomatch z)
    injection this with this
    subst this
    rw [e1] at e1'
    injection e1' with e1'
    subst e1'
    rw [c1] at c1'
    injection c1' with c1'
    injection c1' with c1'
    rw [kVs_inj c1'] at e2
    rw [← e2] at e2'
    exact (Option.some.inj e2').symm
theorem stepL_of {xs : List O} {k : D} {y : O} {g : O → O} (e : stepO (.lst xs) k = some (y, g)) : ∃ i j, k = .int i ∧ ixN xs.length i = some j ∧ xs[j]? = some y := by
  cases k with
  | int i =>
    have e : (match ixN xs.length i with
      | some j => (match xs[j]? with
        | some y => some (y, fun z => O.lst (xs.set j z))
        | none => none)
      | none => none) = some (y, g) := e
    cases e1 : ixN xs.length i with
    | none => simp only [e1] at e; cases e
    | some j =>
      simp only [e1] at e
      cases e2 : xs[j]? with
      | none => simp only [e2] at e; cases e
      | some y0 =>
        simp only [e2] at e
        injection e with e
        injection e with e3 _
        exact ⟨i, j, rfl, e1, by rw [← e3]; exact e2⟩
  | _ => cases e
theorem lookD_pos {k : D} : ∀ {ks : List D} {vs : List O} {j : Nat} {y : O}, posD k ks = some j → vs[j]? = some y → lookD k ks (O.frzL vs) = some y.frz
  | [], vs, j, y, e, _ => by cases e
  | a :: ks, [], j, y, e, h => by simp at h
  | a :: ks, v :: vs, j, y, e, h => by
    unfold posD at e
    show (if keyOf a = keyOf k ∧ tkeyOf a = tkeyOf k then some (O.frz v) else lookD k ks (O.frzL vs)) = some y.frz
    by_cases hc : keyOf a = keyOf k ∧ tkeyOf a = tkeyOf k
    · rw [if_pos hc] at e ⊢
      injection e with e
      subst e
      simp at h
      rw [h]
    · rw [if_neg hc] at e ⊢
      obtain ⟨i, e1, e2⟩ := Option.map_eq_some_iff.mp e
      subst e2
      exact lookD_pos e1 (by simpa using h)
theorem stepD_of {ks : List D} {xs : List O} {k : D} {y : O} {g : O → O} (e : stepO (.dic ks xs) k = some (y, g)) : lookD k ks (O.frzL xs) = some y.frz := by
  have e : (if kindOk k ks = true then (match posD k ks with
    | some j => (match xs[j]? with
      | some y => some (y, fun z => O.dic ks (xs.set j z))
      | none => none)
    | none => none) else none) = some (y, g) := e
  by_cases hk : kindOk k ks = true
  · rw [if_pos hk] at e
    cases e1 : posD k ks with
    | none => simp only [e1] at e; cases e
    | some j =>
      simp only [e1] at e
      cases e2 : xs[j]? with
      | none => simp only [e2] at e; cases e
      | some y0 =>
        simp only [e2] at e
        injection e with e
        injection e with e3 _
        rw [← e3]
        exact lookD_pos e1 e2
  · rw [if_neg hk] at e; cases e
theorem opIdx2 (hK : X.K = T.K) (hu : X.A.units + 200 < cLine) : IxR X (fun x y H Q => relX T B idxD snd2 [x, y] H Q) := by
  intro value slice pins s σ H x y v u Q I rx ry h hsl
  obtain ⟨os, l, r, hl, sa, e, q⟩ := h
  match os, hl with
  | [o, p], _ =>
  have sa : Sat T B H ((o, x) :: (p, y) :: l) := sa
  have e : idxD [o.frz, p.frz] = some r := e
  have q : ∀ u H', Sat T B H' ((r, u) :: (ixBack o p.frz r, x) :: (p.shal, y) :: l) → Q u H' := q
  have d2 := sa.read2
  have sp : Sat T B H ((o, x) :: (p.shal, y) :: l) := (shal_any (sa.swap)).swap
  cases ea : o.frz with
  | lst xs =>
    rw [ea] at e
    cases eb : p.frz with
    | int i =>
      rw [eb] at e d2 q
      have d2 : y = .int i := d2
      subst d2
      have e : (atI xs i).map O.d = some r := e
      obtain ⟨d, e1, e2⟩ := Option.map_eq_some_iff.mp e
      subst e2
      obtain ⟨a, vs, rfl, ha, hl, s1⟩ := Sat.kidsL sp ea
      obtain ⟨n, w, g1, g2, g3⟩ := atI_two hl e1
      refine ix_list value slice pins s σ H _ _ v u Q I rx ry ⟨a, vs, i, w, rfl, rfl, by rw [hK]; exact ha, g3, q _ _ (ix_back sp (SatH.pick (zip_get g1 g2) s1) fun y0 g0 e0 => ?_)⟩ hsl
      cases o with
      | lst os =>
        obtain ⟨a', vs', ex, ha', hl', s2⟩ := SatH.openL sp
        injection ex with ex
        subst ex
        have ev' : vs' = vs := I.list_inj (by rw [hK]; exact .inl (.inl ha')) (by rw [hK]; exact ha)
        subst ev'
        have nz : vw B.Z H a = H a := by
          obtain ⟨F, r, nd, c⟩ := s2.reps
          exact vw_free (c a List.mem_cons_self).2.2.1
        obtain ⟨i', j, hi', hj, hy⟩ := stepL_of e0
        injection hi' with hi'
        subst hi'
        refine ⟨⟨a, rfl, .inl ⟨vs', i, by rw [nz]; exact ha', rfl, g3⟩⟩, ?_⟩
        have ea : O.frzL os = xs := by injection ea
        rw [← ea] at e1
        have lx : (O.frzL os).length = os.length := by rw [frzL_map, List.length_map]
        unfold atI at e1
        rw [lx, hj] at e1
        have e1 : (O.frzL os)[j]? = some d := e1
        rw [frzL_get hy] at e1
        exact Option.some.inj e1
      | _ => first | cases e0 | cases ea
    | _ => rw [eb] at e; cases e
  | tup xs =>
    rw [ea] at e
    cases eb : p.frz with
    | int i =>
      rw [eb] at e d2 q
      have d2 : y = .int i := d2
      subst d2
      have e : (atI xs i).map O.d = some r := e
      obtain ⟨d, e1, e2⟩ := Option.map_eq_some_iff.mp e
      subst e2
      obtain ⟨a, vs, rfl, ha, hl, s1⟩ := Sat.kidsT sp ea
      obtain ⟨n, w, g1, g2, g3⟩ := atI_two hl e1
      refine ix_tup value slice pins s σ H _ _ v u Q I rx ry ⟨a, vs, i, w, rfl, rfl, by rw [hK]; exact ha, g3, q _ _ (ix_back sp (SatH.pick (zip_get g1 g2) s1) fun y0 g0 e0 => ?_)⟩ hsl
      cases o <;> first | cases e0 | cases ea
    | _ => rw [eb] at e; cases e
  | str z =>
    have d1 := sa.read
    rw [ea] at e d1
    have d1 : x = .str z := d1
    subst d1
    cases eb : p.frz with
    | int i =>
      rw [eb] at e d2 q
      have d2 : y = .int i := d2
      subst d2
      have e : (if z.length ≤ sizeLine then (atI z.cps.toList i).map fun c => O.d (.str ⟨#[c]⟩) else none) = some r := e
      split at e
      · rename_i hz
        obtain ⟨c, e1, e2⟩ := Option.map_eq_some_iff.mp e
        subst e2
        refine ix_str value slice pins s σ H _ _ v u Q I rx ry ⟨z, i, c, rfl, rfl, hz, e1, q _ _ ?_⟩ hsl
        exact ix_back sp ((shal_any sp).str) fun y0 g0 e0 => by cases o <;> first | cases e0 | cases ea
      · cases e
    | _ => rw [eb] at e; cases e
  | dic ks ds =>
    rw [ea] at e
    have e : (if kindOk p.frz ks = true then (lookD p.frz ks ds).map O.d else none) = some r := by
      cases hp : p.frz <;> rw [hp] at e <;> exact e
    split at e
    · rename_i hk
      obtain ⟨d, e1, e2⟩ := Option.map_eq_some_iff.mp e
      subst e2
      obtain ⟨a, vs, rfl, ha, hl, s1⟩ := Sat.kidsD sp ea
      rcases dic_get sa ha hl d2 hk with ⟨n, d', w, f1, f2, f3, f4⟩ | ⟨f1, _⟩
      · rw [e1] at f1
        injection f1 with f1
        subst f1
        refine ix_dict (by omega) value slice pins s σ H _ _ v u Q I rx ry ⟨a, w, rfl, f2, q _ _ (ix_back sp (SatH.pick (zip_get f3 f4) s1) fun y0 g0 e0 => ?_)⟩ hsl
        cases o with
        | dic ks' os =>
          have ek : ks' = ks ∧ O.frzL os = ds := by injection ea with h1 h2; exact ⟨h1, h2⟩
          obtain ⟨rfl, rfl⟩ := ek
          have ey := stepD_of e0
          rw [e1] at ey
          injection ey with ey
          refine ⟨?_, ey.symm⟩
          obtain ⟨a', w', rest, ex, st', _, _⟩ := step_open sp e0
          injection ex with ex
          subst ex
          obtain ⟨a'', ex2, h2⟩ := step_use sp st' d2
          injection ex2 with ex2
          subst ex2
          rcases h2 with ⟨vs2, i2, hr, hy, _⟩ | h2
          · exfalso
            rcases ha with ⟨js, _, rd, _⟩ | ⟨js, _, rd, _⟩ <;> rcases hr with hr | ⟨_, hr⟩ <;> rcases rd with rd | ⟨_, rd⟩ <;> rw [hr] at rd <;> cases rd
          · rw [dget_inj f2 h2]
            exact st'
        | _ => first | cases e0 | cases ea
      · rw [e1] at f1; cases f1
    · cases e
  | _ => rw [ea] at e; cases hp : p.frz <;> rw [hp] at e <;> cases e
theorem relX_of {f : List D → Option O} {kf : List D → D} {as : List Arg} {vs : List V} {σ : L2.St} {l : List It1} {H : Hp} {ρ : Env} {Q : VK} (h : RG T B W σ l (opX f kf as ρ) fun o ρ => ∀ v H, At T B H ρ σ ((o, v) :: l) → Q v H)
    (a : At T B H ρ σ (argItsL as vs ++ l)) (av : ArgVs σ as vs) : relX T B f kf vs H Q := opX_ok a av h.rp
theorem s_idx (hK : X.K = T.K) (hu : X.A.units + 200 < cLine) (ha : PE X a (tA T B Φ W sa)) (hb : PE X b (tA T B Φ W sb)) (hs : PlainIx b) : PE X (.Subscript a b pos) (tE T B Φ W (.idx sa sb)) :=
  (pe_ix (opIdx2 (T := T) (B := B) hK hu) ha hb hs).pv fun σ H Q ⟨ρ, l, at_, h⟩ => by
    rw [ev] at h
    refine ⟨ρ, l, at_, h.rg.bind.mono fun a ρ1 k v H1 a1 av => ⟨ρ1, argIts a v ++ l, a1, RG.more (k.bind.mono fun b ρ2 k2 w H2 a2 aw => ?_)⟩⟩
    exact relX_of (as := [a, b]) k2 (a2.perm two_its) ⟨av, aw, trivial⟩
theorem opFld2 {C : Nat} {f : Str} {x : V} {Q : VK} (h : relX T B (fldD C f) (fun _ => .exc C [.str f]) [x] H Q) (cl : Cls X.K (T.cls C) ∧ NoAttr X.K (T.cls C) f) : ∃ a C dx fs v, x = .ref a ∧ H a = some (.ins C dx fs) ∧ Cls X.K C ∧ NoAttr X.K C f ∧ fs.lookup f = some v ∧ Q v H := by
  obtain ⟨os, l, r, hl, sa, e, q⟩ := h
  match os, hl with
  | [o], _ =>
  have sa : Sat T B H ((o, x) :: l) := sa
  have q : ∀ u H', Sat T B H' ((r, u) :: (ixBack o (.exc C [.str f]) r, x) :: l) → Q u H' := q
  have e : fldD C f [o.frz] = some r := e
  cases ea : o.frz with
  | obj C' ns xs =>
    rw [ea] at e
    have e0 : (if C' = C then (fieldD f ns xs).map O.d else none) = some r := e
    by_cases hc : C' = C
    case neg => rw [if_neg hc] at e0; cases e0
    rw [if_pos hc] at e0
    subst hc
    obtain ⟨d, e1, e2⟩ := Option.map_eq_some_iff.mp e0
    subst e2
    obtain ⟨a, dx, vs, rfl, ha, hn, hl, s1⟩ := Sat.kidsO sa ea
    obtain ⟨n, w, g1, g2, g3⟩ := field_two e1 hl
    refine ⟨a, T.cls C', dx, ns.zip vs, w, rfl, ha, cl.1, cl.2, g3, q _ _ (ix_back sa (SatH.pick (zip_get g1 g2) s1) fun y0 g0 est => ?_)⟩
    cases o with
    | obj C'' ns' os =>
      have ek : C'' = C' ∧ ns' = ns ∧ O.frzL os = xs := by injection ea with h1 h2 h3; exact ⟨h1, h2, h3⟩
      obtain ⟨rfl, rfl, rfl⟩ := ek
      obtain ⟨f', j, y1, ef, ej, ey, rfl, _⟩ := stepF_of est
      injection ef with _ ef
      injection ef with ef _
      injection ef with ef
      subst ef
      obtain ⟨a', w', rest, ex, st', _, _⟩ := step_open sa est
      injection ex with ex
      subst ex
      obtain ⟨b, eb, st2⟩ := id st'
      injection eb with eb
      subst eb
      have nz : vw B.Z H a = H a := by
        obtain ⟨_, _, _, _, _, _, _, s2⟩ := SatH.openO sa
        rename_i a2 _ _ e2 _ _ _
        obtain ⟨F, r, nd, c⟩ := s2.reps
        injection e2 with e2
        subst e2
        exact vw_free (c a List.mem_cons_self).2.2.1
      have ew : w' = w := by
        rcases st2 with ⟨vs', i, h1, z, h2⟩ | (⟨kvs, kk, h1, z, h3⟩ | ⟨kvs, kk, h1, z, h3⟩) | ⟨C', dx, fs, f', h1, z, h2⟩
        · cases z
        · cases z
        · cases z
        · rw [nz, ha] at h1
          injection h1 with h1
          injection h1 with _ _ h1
          injection z with _ z
          injection z with z _
          injection z with z
          subst h1 z
          rw [g3] at h2
          exact (Option.some.inj h2).symm
      rw [ew] at st'
      refine ⟨st', ?_⟩
      have fl : ∀ {ns : List Str} {os : List O} {j : Nat} {y : O}, posF f ns = some j → os[j]? = some y → fieldD f ns (O.frzL os) = some y.frz := by
        intro ns
        induction ns with
        | nil => intro os j y h; cases h
        | cons n ns ih =>
          intro os j y h h2
          cases os with
          | nil => simp at h2
          | cons o os =>
            unfold posF at h
            show (if n = f then some (O.frz o) else fieldD f ns (O.frzL os)) = some y.frz
            by_cases hn : n = f
            · rw [if_pos hn] at h ⊢
              injection h with h
              subst h
              simp at h2
              rw [h2]
            · rw [if_neg hn] at h ⊢
              obtain ⟨i, h1, h3⟩ := Option.map_eq_some_iff.mp h
              subst h3
              exact ih h1 (by simpa using h2)
      rw [fl ej ey] at e1
      exact Option.some.inj e1
    | _ => first | cases est | cases ea
  | _ => rw [ea] at e; cases e
theorem s_fld {C : Nat} {f : Str} (cl : Cls X.K (T.cls C) ∧ NoAttr X.K (T.cls C) f) (hb : attributeBase a f X.env (eval a X.env) = eval a X.env) (ha : PE X a (tA T B Φ W sa)) : PE X (.Attribute a f pos) (tE T B Φ W (.fld C sa f)) :=
  (pe_fld ha hb).pv fun σ H Q ⟨ρ, l, at_, h⟩ => by
    rw [ev] at h
    refine ⟨ρ, l, at_, h.rg.bind.mono fun a ρ1 k v H1 a1 av => ?_⟩
    exact opFld2 (relX_of (as := [a]) (vs := [v]) k (a1.perm one_its) ⟨av, trivial⟩) cl
/-- frozen -/
theorem s_frz (ha : PE X e (tE T B Φ W sa)) : PE X e (tE T B Φ W (.frz sa)) := ha.pv fun σ H Q ⟨ρ, l, a, h⟩ => by
  rw [ev] at h
  refine ⟨ρ, l, a, RG.rp (h.rg.bind.mono fun o ρ1 k v H1 a1 => ?_)⟩
  have k : ∀ v H, At T B H ρ1 σ ((.d o.frz, v) :: l) → Q v H := k
  exact k v H1 ⟨a1.ok, ((SatH.perm a1.sat List.perm_middle).freeze).perm List.perm_middle.symm, a1.pr⟩
theorem s_frzA (ha : PE X e (tE T B Φ W (.frz sa))) : PE X e (tA T B Φ W (.frz sa)) := s_valA ha fun ρ => evA_frz
/-! ### looking only -/
noncomputable def eyes (B : Base) (H : Hp) : Base := ⟨fun _ => False, B.Z, vw B.Z H, fun _ => False, [], B.zo⟩
theorem peek {ds : List D} {vs : List V} (s : SatH T B H hs l) (hr : DrL T (fun _ => False) (vw B.Z H) ds vs) : Sat T (eyes B H) H ((ds.map O.d).zip vs ++ []) := by
  refine ⟨s.lk, fun a o e _ => e, fun a z => z.elim, fun a z => z.elim, [], ?_, List.nodup_nil, fun a ha => by cases ha⟩
  show Reps T (fun a => (eyes B H).G a ∨ a ∈ ([] : List Addr)) (vw B.Z H) ((ds.map O.d).zip vs ++ []) []
  rw [List.append_nil]
  have q : DrL T (fun a => (eyes B H).G a ∨ a ∈ ([] : List Addr)) (vw B.Z H) ds vs := Dr.keepL Keep.refl (fun a z => .inl (z.elim id fun z => by cases z)) ds vs hr
  exact DrL.reps q
theorem peek_back {res : List It1} (s : SatH T B H hs l) (s2 : Sat T (eyes B H) H' res) : SatH T B H' hs l := by
  obtain ⟨F, r, nd, c⟩ := s.reps
  have old : ∀ a o, vw B.Z H a = some o → vw B.Z H' a = some o := fun a o e => s2.old a o e fun z => z
  have nn : ∀ a, H a ≠ none → H' a ≠ none := fun a h z => by
    cases e : vw B.Z H a with
    | none => exact h (vw_none.mp e)
    | some o =>
      have := old a o e
      rw [vw_none.mpr z] at this
      cases this
  refine ⟨s2.lk, fun a o e hi => old a o (s.old a o e hi), s.oth, fun a ha => nn a (s.io a ha), F, Reps.keep (fun a o e _ => old a o e) (fun a z => .inl z) l F (fun a ha => ?_) r, nd, fun a ha => ?_⟩
  · cases e : vw B.Z H a with
    | none => exact ((c a (List.mem_append_right _ ha)).2.2.2 (vw_none.mp e)).elim
    | some o => exact old a o e
  · obtain ⟨c1, c2, c3, c4⟩ := c a ha
    exact ⟨c1, c2, c3, nn a c4⟩
theorem b_pkcm {k : Cm} {i : Nat} {rp : List SE} {b : SE} : BoolSE Φ (.pkcm k i rp b) := by
  refine ⟨fun ρ o ρ' e => ?_, fun ρ => evC_def (by rw [evC] <;> simp) (by rw [evA]; simp)⟩
  rw [ev] at e
  obtain ⟨_, _, e⟩ := Res.bnd_of e
  obtain ⟨_, _, _, e⟩ := Res.bind_of e
  obtain ⟨_, _, e⟩ := Res.bnd_of e
  obtain ⟨_, _, _, e⟩ := Res.bind_of e
  obtain ⟨_, _, e⟩ := Res.bnd_of e
  injection e with e _
  exact ⟨_, e.symm⟩
theorem s_pkcm {k : Cm} {i : Nat} {rp : List SE} {e1 e2 : Expr} (hK : X.K = T.K) (hu : X.A.units + 200 < cLine) (he : PE X e1 (tRc T B Φ W i rp)) (hb : ∀ B' : Base, B'.pr = B.pr → PE X e2 (tE T B' Φ W sb)) : CmpR T B Φ W X e1 (cmOp k) e2 (.pkcm k i rp sb) := by
  have hb' : PE X e2 (fun σ H Q => ∃ B' : Base, B'.pr = B.pr ∧ tE T B' Φ W sb σ H Q) := ⟨fun pins s σ H Q I ⟨B', hpr, h⟩ => (hb B' hpr).run pins s σ H Q I h⟩
  have op : OpR X (compareOp (cmOp k)) (fun x y H Q => ∃ B2 : Base, relN T B2 (cmD k) false [x, y] H Q) := fun pins s σ H x y v u Q I rx ry ⟨B2, h⟩ => opCm (T := T) (B := B2) hK hu k pins s σ H x y v u Q I rx ry h
  refine ⟨_, _, _, op, he, hb', fun σ H Q ⟨ρ, l, at_, h⟩ => ?_⟩
  rw [ev] at h
  obtain ⟨o, eo, h⟩ := h.rg.bnd
  obtain ⟨v, evi⟩ := at_.ok.at eo
  have a0 := at_.take eo evi
  have hi : i < σ.length := slot_lt' evi
  refine ⟨ρ.set i none, l, o, v, a0, evi, RG.more1 (h.bind.mono fun ks ρ1 k1 => ?_)⟩
  obtain ⟨p, ep, k1⟩ := k1.bnd
  refine ⟨⟨p, ep⟩, fun H1 x a1 pa => ?_⟩
  obtain ⟨B', hpr, a2, back⟩ := a1.hold
  refine ⟨B', hpr, ρ1, l, a2, RG.rp (RG.held (o := o) (v := v) (fun p hp => a1.pr p hp) (fun H' ρ' m a' => (back H' ρ' σ m a1.pr a').1) (RG.more1 k1.bind) fun okk ρ3 k3 => ?_)⟩
  intro y H3 a4
  obtain ⟨a5, pres⟩ := back H3 ρ3 σ _ a1.pr a4
  obtain ⟨r0, er, k4⟩ := k3.bnd
  have k4 : ∀ v H, At T B H (ρ3.set i (some o)) σ ((.d (.bl r0), v) :: l) → Q v H := k4
  have s5 : Sat T B H3 ((o, v) :: ((okk, y) :: (envIts ρ3 σ ++ l))) := a5.sat.perm (List.perm_middle.trans (List.perm_middle.cons _))
  obtain ⟨p1, p2⟩ := p
  obtain ⟨o', x', ad, rest, o1, px1, ef, s6, close⟩ := path_open s5 ep
  have px := pres ks _ _ x ep pa
  have ex : x = x' := px.inj px1
  subst ex
  injection ef with ef
  injection ef with ef _
  subst ef
  have d1 := s6.read
  have d2 : Dr T (fun _ => False) (vw B.Z H3) okk.frz y := (SatH.perm s5 (.swap _ _ _)).read
  refine ⟨eyes B H3, [.d o'.frz, .d okk.frz], [], .d (.bl r0), rfl, peek (ds := [o'.frz, okk.frz]) (vs := [x, y]) s5 ⟨x, [y], rfl, d1, y, [], rfl, d2, rfl⟩, ?_, fun u H' s7 => ?_⟩
  · show (cmpD k o'.frz okk.frz).map (fun b => O.d (.bl b)) = some (.d (.bl r0))
    rw [er]; rfl
  · have eu : u = .bl r0 := SatH.read s7
    subst eu
    have s8 := peek_back s5 s7
    have s9 : Sat T B H' ((o, v) :: (envIts ρ3 σ ++ l)) := (SatH.drop1 (s8.perm (.swap _ _ _)))
    have a6 : At T B H' ρ3 σ ((o, v) :: l) := ⟨a4.ok, s9.perm List.perm_middle.symm, a1.pr⟩
    have hi2 : i < ρ3.length := by rw [a4.ok.len]; exact hi
    have t := (a6.clear i).fill (i := i) (by unfold slotE; rw [List.getElem?_set_self hi2]; rfl) (by simpa using hi2) evi
    rw [List.set_set] at t
    exact k4 _ H' t.blR
end
end PV
/-! PV29: the set of a list of texts -/
namespace PV
open PySem PySem.Spec PyProof.Rows
section
open L2
variable {T : Tab} {B : Base} {Φ : Phi} {W : WX} {X : Cx} {e a b : Expr} {p p2 pos q : Pos} {sa sb : SE}
/-- len(set(xs)) -/
theorem s_lenset (hK : X.K = T.K) (hc : X.calm = true) (hg : Gl X "len") (hm : X.mg "len" = none) (hg2 : Gl X "set") (hm2 : X.mg "set" = none) (ha : PE X a (tA T B Φ W sa)) (na : starEach [a] X.env = (false, eval a X.env) :: starEach [] X.env)
    (na2 : starEach [.Call (.Name "set" p2) [a] [] q] X.env = (false, eval (.Call (.Name "set" p2) [a] [] q) X.env) :: starEach [] X.env) :
    PE X (.Call (.Name "len" p) [.Call (.Name "set" p2) [a] [] q] [] pos) (tE T B Φ W (.fn .lenset [sa])) := by
  have go : PE X (.Call (.Name "len" p) [.Call (.Name "set" p2) [a] [] q] [] pos) (fun σ H Q => tA T B Φ W sa σ H fun x H1 => relN T B (fnD .lenset) false [x] H1 Q) := by
    refine ⟨fun pins s σ H Q I h => ?_⟩
    refine Call_ (ld_blt I hg hm boot_len ?_)
    refine PyProof.Rows.callWith_builtin1 (PyProof.Rows.args_cons ?_ na2) rfl rfl
    refine Call_ (ld_blt I hg2 hm2 boot_set ?_)
    refine PyProof.Rows.callWith_type1 (PyProof.Rows.args_cons (thn (ha.run pins s σ H _ I h) fun v s1 hq => PyProof.Rows.args_nil ?_) na) na rfl
    obtain ⟨x, H1, I1, r1, q1⟩ := hq
    obtain ⟨o, l, r, sa, e, q1⟩ := rel1 q1
    cases eo : o.frz with
    | lst xs =>
      rw [eo] at e
      have e : (match strsD xs with
        | some ys => if ys.length ≤ 4000 then some (O.d (.int (met ys).length)) else none
        | none => none) = some r := e
      cases es : strsD xs with
      | none => rw [es] at e; cases e
      | some ys =>
        rw [es] at e
        have e : (if ys.length ≤ 4000 then some (O.d (.int (met ys).length)) else none) = some r := e
        by_cases hz : ys.length ≤ 4000
        · rw [if_pos hz] at e
          injection e with e
          subst e
          have d := SatH.read sa
          rw [eo] at d
          obtain ⟨c, vs, rfl, h1, h2⟩ := d
          have hv := strs_vals es h2
          subst hv
          have hq : SqL X.K H1 c (ys.map V.str) := by
            rw [hK]
            rcases h1 with ⟨_, h1⟩ | h1
            · exact .inl (rd_vw sa (fun _ _ z => nomatch z) h1)
            · exact .inr h1
          cases r1
          obtain ⟨its, r, pl, _⟩ := I1.list hq
          have hi := strsAre_of (us := its) r
          have hlen : its.toArray.size = ys.length := by rw [List.size_toArray, ← r.length, List.length_map]
          refine call_set_listN (xs := ys) (I1.ok.hd hc) pl.isList (by simpa using hi) (by unfold scanBound; omega) fun h' tk hS hk => ?_
          refine PyProof.Rows.args_nil ?_
          rw [hlen, List.take_length] at hS
          obtain ⟨o, es, ep, t, ho, hex, hd, _, _, _, hf, hn⟩ := hS
          have I2 : Inv X pins σ H1 { s1 with heap := h', toks := tk } := I1.kept fun b o e => hk b o (Heap.lt_size e) e
          have := met_le ys
          exact call_len_set ho hex hd hf (by rw [hn]; omega) ⟨.int (met ys).length, H1, I2.tok _, ⟨_, by rw [hn]⟩, q1 _ _ sa.int⟩
        · rw [if_neg hz] at e; cases e
    | _ => rw [eo] at e; cases e
  refine go.pv fun σ H Q ⟨ρ, l, a, h⟩ => ?_
  rw [ev, evAs] at h
  have h := h.rg.bind.bind
  refine ⟨ρ, l, a, h.mono fun y ρ1 k v H1 a1 av => ?_⟩
  rw [evAs] at k
  exact rel_of (as := [y]) k.bind (a1.perm one_its) ⟨av, trivial⟩
end
end PV
/-! PV30: what a body may use: defs, methods, classes of the text; short forms -/
namespace PV
open PySem PySem.Spec PyProof.Rows L2
def phi (l : List (Nat × (List O → FRes))) : Phi := fun n => ⟨0, (l.lookup n).getD fun _ => .bad⟩
theorem room_hu {k : Nat} {A : Around} (h : Room k A) : A.units + 200 < cLine := by have := h.un; omega
theorem takesF {X : Cx} : Takes X WF := takes0
section
variable {Φ : Phi}
def notVar : SE → Bool
  | .var _ => false
  | _ => true
theorem evA_val {se : SE} (h : notVar se = true) (ρ : Env) : evA Φ se ρ = (ev Φ se ρ).bind fun o ρ => .ok (.val o) ρ := by
  cases se <;> first | (cases h; done) | (rw [evA]; intro i z; cases z)
def notLog : SE → Bool
  | .band _ => false
  | .bor _ => false
  | .bnot _ => false
  | _ => true
theorem evC_val {se : SE} (h : notLog se = true) (ρ : Env) : evC Φ se ρ = (evA Φ se ρ).bind fun a ρ => (fetch a ρ).bind fun o ρ => (Res.of (truD o.frz) ρ).bind fun b ρ => .ok b (back a o ρ) := by
  cases se <;> first | (cases h; done) | (rw [evC] <;> simp)
end
section
variable (P : Program) (w : World) (K : PySem.W.Frag) (mg : Str → Option Value) (base : Heap) (T : Tab)
structure Callee (x : Str) (ps : List Str) (k : Nat) (run : List O → FRes) : Prop where
  ex : ∃ f fd, FnOk P w K mg base (L2.CX P w) k f fd ps (spOf T run) ∧ mg x = some (.ref f) ∧ PySem.W.keepIn K (.ref f) = true ∧ Binds K fd ps []
/-- a method -/
structure CMeth (C : Nat) (m : Str) (ps : List Str) (k : Nat) (run : List O → FRes) : Prop where
  cl : Cls K (T.cls C)
  ex : ∃ f fd, FnOk P w K mg base (L2.CX P w) k f fd ps (spOf T run) ∧ Meth K (T.cls C) m f ∧ Binds K fd ps []
structure CProp (C : Nat) (m : Str) (ps : List Str) (k : Nat) (run : List O → FRes) : Prop where
  cl : Cls K (T.cls C)
  ex : ∃ q f fd, FnOk P w K mg base (L2.CX P w) k f fd ps (spOf T run) ∧ PropOf K (T.cls C) m q f ∧ Binds K fd ps []
/-- a class called: n values by place, the keywords ks, arranged by g -/
structure CMake (C : Nat) (x : Str) (k : Nat) (run : List O → FRes) (n : Nat) (ks : List Str) (g : List (Nat ⊕ D)) : Prop where
  gm : mg x = some (.ref (T.cls C))
  ex : ∃ f fd ps dv, FnOk P w K mg base (L2.CX P w) k f fd ps (spOf T run) ∧ Mk K (T.cls C) f ∧ BindG K fd ps (n + 1) ks (.inl 0 :: g) dv ∧ ∀ d, .inr d ∈ g → ∀ own hp, Dr T own hp d (dv d)
end
theorem arrX_idg {α : Type} {dv : D → α} : ∀ {as : List α} {n : Nat} {pre : List α}, arrX dv (pre ++ as) ((List.range' pre.length as.length).map .inl) = some as
  | [], n, pre => rfl
  | a :: as, n, pre => by
    rw [List.length_cons, List.range'_succ, List.map_cons, arrX]
    have e : (pre ++ a :: as)[pre.length]? = some a := by simp
    have h := arrX_idg (dv := dv) (as := as) (n := n) (pre := pre ++ [a])
    rw [List.append_assoc, List.length_append] at h
    have h : arrX dv (pre ++ a :: as) ((List.range' (pre.length + 1) as.length).map .inl) = some as := h
    rw [e, h]
def idg (n : Nat) : List (Nat ⊕ D) := (List.range' 0 n).map .inl
theorem inls_idg : ∀ l : List Nat, inls (l.map .inl) = l
  | [] => rfl
  | a :: l => by show a :: inls (l.map .inl) = _; rw [inls_idg l]
theorem bindG_all {K : PySem.W.Frag} {fd : FuncData} {ps : List Str} {n : Nat} (hb : Binds K fd ps []) (hn : ps.length = n) : BindG K fd ps n [] (idg n) (fun _ => .non) := by
  refine ⟨?_, fun _ => .none, fun d hd => ?_, fun s us ws zs hk l1 l2 e => ?_⟩
  · unfold idg
    rw [inls_idg]
    exact List.nodup_range'
  · unfold idg at hd
    obtain ⟨_, _, z⟩ := List.mem_map.mp hd
    cases z
  · have ew : ws = [] := List.eq_nil_of_length_eq_zero l2
    subst ew
    rw [List.append_nil] at e
    have := arrX_idg (dv := fun _ : D => Value.none) (as := us) (n := 0) (pre := [])
    rw [List.nil_append, List.length_nil, l1] at this
    unfold idg at e
    rw [this] at e
    injection e with e
    subst e
    have q := hb s us hk (by rw [List.append_nil, l1, hn])
    rw [List.append_nil] at q
    exact q
section
variable {T : Tab} {B : Base} {Φ : Phi} {W : WX} {X : Cx} {k fi n : Nat} {x m : Str} {ps ks : List Str} {run : List O → FRes} {e o a b : Expr} {es : List Expr} {kws : List Keyword} {pos p apos : Pos} {sa sb se : SE} {ses sp sk : List SE} {C lv : Nat} {g : List (Nat ⊕ D)}
theorem s_A (h : PE X e (tE T B Φ W se)) (hs : notVar se = true) : PE X e (tA T B Φ W se) := s_valA h (evA_val hs)
theorem s_T (hK : X.K = T.K) (ha : PE X a (tA T B Φ W sa)) (he : isPlainTest a = true) (hs : notLog sa = true) : PT X a (tT T B Φ W sa) := s_test hK ha he (evC_val hs)
theorem s_callC (F : Callee X.prog X.w X.K X.mg X.base T x ps k run) (hΦ : (Φ fi).run = run) (hr : Room lv X.A) (hl : k ≤ lv) (hg : Gl X x) (tk : Takes X W) (ha : PA X (e :: es) (tAs T B Φ W ses)) (hdb : (x == ("__debug__" : Str)) = false)
    (he : starEach (e :: es) X.env = (false, eval e X.env) :: starEach es X.env) (hpl : (backTo pos (starEach es X.env)).any (·.1) = false) : PE X (.Call (.Name x p) (e :: es) [] pos) (tE T B Φ W (.call fi ses)) := by
  obtain ⟨f, fd, F, hm, hk, hb⟩ := F.ex
  exact s_call F (n := (Φ fi).lvl) (by rw [← hΦ]) (hr.mono hl) hg hm hk hb tk ha hdb he hpl
theorem s_callC0 (F : Callee X.prog X.w X.K X.mg X.base T x ps k run) (hΦ : (Φ fi).run = run) (hr : Room lv X.A) (hl : k ≤ lv) (hg : Gl X x) (tk : Takes X W) (hdb : (x == ("__debug__" : Str)) = false) : PE X (.Call (.Name x p) [] [] pos) (tE T B Φ W (.call fi [])) := by
  obtain ⟨f, fd, F, hm, hk, hb⟩ := F.ex
  exact s_call0 F (n := (Φ fi).lvl) (by rw [← hΦ]) (hr.mono hl) hg hm hk hb tk hdb
theorem s_methC {pl : Sem Bool} (M : CMeth X.prog X.w X.K X.mg X.base T C m ps k run) (hΦ : (Φ fi).run = run) (hr : Room lv X.A) (hl : k ≤ lv) (hn : ps.length = sp.length + 1) (tk : Takes X W) (he : PE X o (tA T B Φ W sa)) (hp : PA X es (tAs T B Φ W sp)) (h0 : es = [] → sp = []) (h1 : Plain1 X es)
    (hpl : ((backTo pos (starEach es X.env)).any (·.1) || (backToKw pos (keywordEach [] X.env)).any (·.1.isNone)) = false)
    (ht : eval (.Call (.Attribute o m apos) es [] pos) X.env = (do
      let ov ← eval o X.env
      standAt apos.atName
      let (f, first) ← holding [ov] (getMethod ov m pl)
      callWith pos f first (backTo pos (starEach es X.env)) (backToKw pos (keywordEach [] X.env)))) : PE X (.Call (.Attribute o m apos) es [] pos) (tE T B Φ W (.meth C m fi sa sp (idg (sp.length + 1)))) := by
  obtain ⟨f, fd, F, hm, hb⟩ := M.ex
  have := s_methA (sk := []) (n := (Φ fi).lvl) M.cl hm F (by rw [← hΦ]) (hr.mono hl) (bindG_all hb hn) (fun d hd => by unfold idg at hd; obtain ⟨_, _, z⟩ := List.mem_map.mp hd; cases z) rfl tk he hp s_K0 h0 h1 rfl rfl hpl ht
  rw [List.append_nil] at this
  exact this
theorem s_propC (M : CProp X.prog X.w X.K X.mg X.base T C m ps k run) (hΦ : (Φ fi).run = run) (hr : Room lv X.A) (hl : k + 1 ≤ lv) (he : PE X e (tA T B Φ W sa)) (hab : attributeBase e m X.env (eval e X.env) = eval e X.env) : PE X (.Attribute e m pos) (tE T B Φ W (.prop C m fi sa)) := by
  obtain ⟨q, f, fd, F, hp, hb⟩ := M.ex
  exact s_prop M.cl hp F (n := (Φ fi).lvl) (by rw [← hΦ]) (hr.mono hl) hb he hab
theorem s_makeC (M : CMake X.prog X.w X.K X.mg X.base T C x k run sp.length ks g) (hΦ : (Φ fi).run = run) (hr : Room lv X.A) (hl : k + 1 ≤ lv) (hlen : sk.length = ks.length)
    (hg : Gl X x) (tk : Takes X W) (hp : PA X es (tAs T B Φ W sp)) (hkw : PK X kws (tAs T B Φ W sk)) (h0 : es = [] → sp = []) (h1 : Plain1 X es)
    (hall : (backToKw pos (keywordEach kws X.env)).all (·.1.isSome) = true) (hks : (backToKw pos (keywordEach kws X.env)).filterMap (·.1) = ks) (hpl : ((backTo pos (starEach es X.env)).any (·.1) || (backToKw pos (keywordEach kws X.env)).any (·.1.isNone)) = false)
    (hdb : (x == ("__debug__" : Str)) = false) : PE X (.Call (.Name x p) es kws pos) (tE T B Φ W (.make C fi (sp ++ sk) (.inl 0 :: g))) := by
  obtain ⟨f, fd, ps, dv, F, mk, hb, hd⟩ := M.ex
  exact s_makeA mk F (n := (Φ fi).lvl) (by rw [← hΦ]) (hr.mono hl) hb hd hlen hg M.gm tk hp hkw h0 h1 hall hks hpl hdb
theorem s_dlenC (M : CMeth X.prog X.w X.K X.mg X.base T C "__len__" ps k run) (hΦ : (Φ fi).run = run) (hr : Room lv X.A) (hl : k + 1 ≤ lv) (hg : Gl X "len") (hm : X.mg "len" = none) (he : PE X e (tA T B Φ W sa)) (hst : starEach [e] X.env = (false, eval e X.env) :: starEach [] X.env) (hpl : (backTo pos (starEach [] X.env)).any (·.1) = false) :
    PE X (.Call (.Name "len" p) [e] [] pos) (tE T B Φ W (.dlen C fi sa)) := by
  obtain ⟨f, fd, F, mm, hb⟩ := M.ex
  exact s_dlen (hr.mono hl) F (n := (Φ fi).lvl) (by rw [← hΦ]) hb mm.at_ mm.fn hg hm he hst hpl
theorem s_dinC (neg : Bool) (M : CMeth X.prog X.w X.K X.mg X.base T C "__contains__" ps k run) (hΦ : (Φ fi).run = run) (hr : Room lv X.A) (hl : k ≤ lv) (ha : PE X a (tA T B Φ W sa)) (hb2 : PE X b (tA T B Φ W sb)) : CmpR T B Φ W X a (if neg then .NotIn else .In) b (.din neg C fi sa sb) := by
  obtain ⟨f, fd, F, mm, hb⟩ := M.ex
  exact s_din neg (hr.mono hl) F (n := (Φ fi).lvl) (by rw [← hΦ]) hb mm.at_ mm.fn ha hb2
/-- a class with an own == -/
structure CEq (K : PySem.W.Frag) (T : Tab) (C : Nat) : Prop where
  ci : ClsI K (T.cls C)
  ne : PySem.W.findIn K (.ref (T.cls C)) "__ne__" = some (some (.builtin "object.__ne__"))
  ty : ∀ t ∈ (["NoneType", "bool", "int", "str", "tuple", "list", "dict"] : List String), PySem.W.subIn K (.type t) (.ref (T.cls C)) = some false
theorem s_deqC (neg : Bool) (hK : X.K = T.K) (M : CMeth X.prog X.w X.K X.mg X.base T C "__eq__" ps k run) (Q : CEq X.K T C) (hΦ : (Φ fi).run = run) (hr : Room lv X.A) (hl : k + 1 ≤ lv) (ha : PE X a (tA T B Φ W sa)) (hb2 : PE X b (tA T B Φ W sb)) : CmpR T B Φ W X a (if neg then .NotEq else .Eq) b (.deq neg C fi sa sb) := by
  obtain ⟨f, fd, F, mm, hb⟩ := M.ex
  exact s_deq neg hK (hr.mono hl) Q.ci F (n := (Φ fi).lvl) (by rw [← hΦ]) hb mm.at_ Q.ne mm.fn Q.ty ha hb2
/-- C.f, a constant of the class -/
theorem s_ccon {mc : Value} {f : Str} {v : V} {u : Value} {d : D} {CA : Addr} (hg : Gl X x) (hm : X.mg x = some (.ref CA)) (r : ClX.CRead X.K CA mc) (c : ClX.CVal X.K CA mc f v u) (hd : ∀ own hp, Dr T own hp d v) (hdb : (x == ("__debug__" : Str)) = false)
    (hab : attributeBase (.Name x p) f X.env (eval (.Name x p) X.env) = eval (.Name x p) X.env) : PE X (.Attribute (.Name x p) f pos) (tE T B Φ W (.lit d)) := by
  refine s_C (v := v) ⟨fun pins s σ H Q I h => ?_⟩ hd
  refine attr_of hab (ld_glob I hg hm ?_ hdb)
  exact ClX.getcval_ok I r c fun s' I' => ⟨v, H, I', c.rel, h⟩
end
end PV
/-! PV31: fields as targets; names of the module -/
namespace PV
open PySem PySem.Spec PyProof.Rows L2
section
variable {T : Tab} {B : Base} {Φ : Phi} {W : WX} {X : Cx} {x : Str} {p1 pos : Pos} {a : Expr}
theorem o_tgF {i C : Nat} {f : Str} (cl : Cls X.K (T.cls C) ∧ NoAttr X.K (T.cls C) f) (hN : X.N[i]? = some x) (hv : Vis X.env.scope x) (hd : (x == ("__debug__" : Str)) = false) (hc : (x == ("__classdict__" : Str)) = false)
    (ha : ∀ v, assign (.Attribute (.Name x p1) f pos) X.env v = (do
      let ov ← holding [v] (eval (.Name x p1) X.env)
      standAt pos.atName
      holding [v, ov] (setAttr ov f v)
      release [v, ov] [])) : PG X (.Attribute (.Name x p1) f pos) (gO T B (.fl i C f)) := by
  refine ⟨fun pins s σ H w u Q I r h => ?_⟩
  obtain ⟨ov, ρ1, ρ2, l, a1, e, q⟩ := h
  rw [asgO] at e
  cases eo : slotE ρ1 i with
  | none => rw [eo] at e; cases e
  | some o =>
    rw [eo] at e
    obtain ⟨v, evi⟩ := a1.ok.at eo
    have a0 := a1.take eo evi
    cases o with
    | obj C' ns os =>
      have e : (match (if C' = C ∧ ns.length < 1000 then some (let r := putFO f ov ns os; O.obj C' r.1 r.2) else none) with
        | some b' => some (ρ1.set i (some b'))
        | none => none) = some ρ2 := e
      by_cases hC : C' = C ∧ ns.length < 1000
      · rw [if_pos hC] at e
        have e : some (ρ1.set i (some (O.obj C' (putFO f ov ns os).1 (putFO f ov ns os).2))) = some ρ2 := e
        have e9 := Option.some.inj e
        obtain ⟨rfl, hlen⟩ := hC
        have s1 : Sat T B H ((.obj C' ns os, v) :: ((ov, w) :: (envIts (ρ1.set i none) σ ++ l))) := a0.sat.perm (List.perm_middle.trans (List.perm_middle.cons _))
        obtain ⟨b, dx, ws, rfl, hb, hn, hl, s2⟩ := SatH.openO s1
        obtain ⟨ws', e1, e2, e3, k⟩ := putF_zip (f := f) (y := w) (v := ov) (ns := ns) (os := os) (ws := ws) (by omega) hn
        have s3 : SatH T B H [b] ((putFO f ov ns os).2.zip ws' ++ (envIts (ρ1.set i none) σ ++ l)) := k (s2.perm List.perm_middle)
        have ne : (∀ xs, H b ≠ some (.tup xs)) ∧ ∀ ob u, H b ≠ some (.frz ob u) := ⟨(fun xs z => by rw [hb] at z; cases z), (fun ob u z => by rw [hb] at z; cases z)⟩
        have s4 : Sat T B (upd H b (.ins (T.cls C') dx ((putFO f ov ns os).1.zip ws'))) ((.obj C' (putFO f ov ns os).1 (putFO f ov ns os).2, .ref b) :: (envIts (ρ1.set i none) σ ++ l)) := SatH.closeO (s3.write ne.1 ne.2) upd_same e2 e3
        have a5 : At T B (upd H b (.ins (T.cls C') dx ((putFO f ov ns os).1.zip ws'))) (ρ1.set i none) σ ((.obj C' (putFO f ov ns os).1 (putFO f ov ns os).2, .ref b) :: l) := ⟨a0.ok, s4.perm List.perm_middle.symm, a0.pr⟩
        have hi2 : i < (ρ1.set i none).length := by rw [List.length_set]; exact slot_lt eo
        have t := a5.fill (i := i) (by unfold slotE; rw [List.getElem?_set_self (slot_lt eo)]; rfl) hi2 evi
        rw [List.set_set] at t
        have t2 : At T B (upd H b (.ins (T.cls C') dx (putF f w (ns.zip ws)))) ρ2 σ l := by rw [e1, ← e9]; exact t
        rw [ha]
        refine wpAny_bind (wpAny_holding (thn ((pe_var hN hv hd hc).run pins s σ H (fun x H1 => x = .ref b ∧ H1 = H) I ⟨.ref b, evi, rfl, rfl⟩) fun oo s1 hq => ?_))
        obtain ⟨x', H1, I1, rx, rfl, rfl⟩ := hq
        obtain rfl : oo = Value.ref b := rx
        refine wpAny_bind (wpAny_standAt (wpAny_bind (wpAny_holding (setattr_ok I1 hb cl.1 cl.2 (by rw [List.length_zip]; omega) r fun s3 I3 => ?_))))
        exact wpAny_release ⟨σ, _, I3, q σ _ t2⟩
      · rw [if_neg hC] at e; cases e
    | _ => cases e
theorem s_gint {i : Int} (hg : Gl X x) (hm : ∃ t, X.mg x = some (.int i t)) (hdb : (x == ("__debug__" : Str)) = false) : PE X (.Name x pos) (tE T B Φ W (.glo x (.int i))) := by
  obtain ⟨t, hm⟩ := hm
  exact s_G (v := .int i) (pe_glob hg hm ⟨t, rfl⟩ hdb) fun _ _ => rfl
theorem s_gstr {z : Str} (hg : Gl X x) (hm : ∃ t, X.mg x = some (.str z t)) (hdb : (x == ("__debug__" : Str)) = false) : PE X (.Name x pos) (tE T B Φ W (.glo x (.str z))) := by
  obtain ⟨t, hm⟩ := hm
  exact s_G (v := .str z) (pe_glob hg hm ⟨t, rfl⟩ hdb) fun _ _ => rfl
end
end PV
/-! PV32: small forms for the printed derivations -/
namespace PV
open PySem PySem.Spec PyProof.Rows L2
theorem hz_of {n : Nat} (h : n ≤ 1000) : n ≤ sizeLine := by rw [sizeLine_eq]; omega
theorem goD_fl {i C : Nat} {f : Str} {ts : List Tg} {xs : List D} {ρ : Env} : asgO.goD (.fl i C f :: ts) xs ρ = none := by
  cases xs with
  | nil => rw [asgO.goD] <;> simp
  | cons x xs =>
    rw [asgO.goD]
    have : asgT (.fl i C f) x ρ = none := by rw [asgT] <;> simp
    rw [this]
theorem fn_bad {P : Program} {w : World} {K : PySem.W.Frag} {mg : Str → Option Value} {base : Heap} {k : Nat} {f : Addr} {fd : FuncData} {ps : List Str} {T : Tab} : FnOk P w K mg base (L2.CX P w) k f fd ps (spOf T fun _ => .bad) :=
  ⟨fun vs H Q E ⟨_, _, _, _, _, z⟩ => z.elim, fun A outer s H args us vs Q E _ _ _ _ ⟨_, _, _, _, _, z⟩ => z.elim⟩
/-- a constant of a class -/
structure CConst (K : PySem.W.Frag) (mg : Str → Option Value) (x f : Str) (CA : Addr) (mc : Value) (v : V) (u : Value) : Prop where
  gm : mg x = some (.ref CA)
  rd : ClX.CRead K CA mc
  cv : ClX.CVal K CA mc f v u
section
variable {T : Tab} {B : Base} {Φ : Phi} {W : WX} {X : Cx} {L : List Nat}
theorem st_asgLcP {i : Nat} {y : Str} {py spos : Pos} {elt tg iter : Expr} {ifs : List Expr} {scope : Scope} {own : List (Str × Nat)} {t : Tg} {ie : IE} {se : SE} {sifs : List SE} {pos : Pos}
    (pr : PrIn B L) (hc : X.calm = true) (hN : X.N.Nodup) (hy : X.N[i]? = some y) (hyl : X.env.scope.names.lookup y = some .local) (hpi : L.contains i = false)
    (hsw : swapsWith (.ListComp elt [⟨tg, iter, ifs, 0⟩] scope pos) (some (.Name y py)) spos.line X.env = pure true) (nd : (own.map (·.2)).Nodup) (hp : (L.all fun i => !(own.map (·.2)).contains i) = true) (htg : ∀ i ∈ tgSlots t, i ∈ own.map (·.2))
    (hi : PI X tg iter (tI T B Φ W ie)) (ok : BlkOk X.N X.env.scope scope own)
    (hg : ∀ (s : Shared) (H : Hp) (C : Addr) (cl : List (Str × Addr)) (fp : List Addr), PG (X.blk s H scope (compEnvC scope cl C X.env) fp) tg (gT T B t))
    (ht : ∀ (s : Shared) (H : Hp) (C : Addr) (cl : List (Str × Addr)) (fp : List Addr), PTs (X.blk s H scope (compEnvC scope cl C X.env) fp) ifs (tTs T B Φ sifs))
    (he : ∀ (s : Shared) (H : Hp) (C : Addr) (cl : List (Str × Addr)) (fp : List Addr), PE (X.blk s H scope (compEnvC scope cl C X.env) fp) elt (tE T B Φ WF se)) (hs : ∀ x, foldedSetIterable iter X.env x = pure x) :
    PS X (.Assign [.Name y py] (.ListComp elt [⟨tg, iter, ifs, 0⟩] scope pos) spos) (tS T B Φ W (.asg (.nm i) (.comp .lst se (own.map (·.2)) t ie sifs))) :=
  st_asgLc (fun ρ p ρ' e => (evI_ok e).2) hc hN hy hyl (pr.ne hpi) hsw nd (pr.nin hp) htg hi ok hg ht he hs
/-- a target of several parts of which one is a field: what is owned alone -/
theorem o_tgTF {es : List Expr} {k : Nat} {ts : List Tg} {pos : Pos} (hK : X.K = T.K) (hc : X.calm = true) (h : PGs X es (gOs T B ts)) (hn : (assignEach es X.env).length = ts.length) (hst : (assignEach es X.env).findIdx? (·.1) = none) (hx : ∀ xs ρ, asgO.goD ts xs ρ = none) : PG X (.Tuple es k pos) (gO T B (.tp ts)) := by
  refine (pg_tup (n := ts.length) hc h hn hst).pv fun pins s v σ H Q I ⟨o, ρ, ρ', l, a, e, q⟩ => ?_
  cases o with
  | d x =>
    cases x with
    | tup xs =>
      rw [asgO, hx] at e
      cases e
    | _ => rw [asgO] at e <;> first | cases e | simp
  | tup xs =>
    have e : asgO.go ts xs ρ = some ρ' := by rw [asgO] at e; exact e
    have s1 : Sat T B H ((.tup xs, v) :: (envIts ρ σ ++ l)) := a.sat.perm List.perm_middle
    obtain ⟨b, vs, rfl, hb, hl, s2⟩ := SatH.openT s1
    exact ⟨b, vs, rfl, SqT.of hb, by rw [← hl, asgO_len e], ⟨xs, ρ, ρ', l, hl, ⟨a.ok, s2.perm swap_its, a.pr⟩, e, q⟩⟩
  | _ => rw [asgO] at e <;> first | cases e | simp
end
end PV
/-! PV33: the head: facts by names, over one part of the heap -/
namespace PV
open PySem PySem.Spec PyProof.Rows L2
open He (ga ma fAd ba eqO eqO_ok)
abbrev Frg : Type := PySem.W.Frag
abbrev DefA : Type := He5.DefA
/-! ### the Hook -/
def obsP (fa : List (Frg → Bool)) (fn : List DefA) (K : Frg) : He.AlD := ((fa.all fun f => f K) && fn.all fun d => d.ok K, fn.map fun d => He5.fnA K (d.at_ K))
def SaysP (fa : List (Frg → Bool)) (fn : List DefA) (K : Frg) : Prop := obsP fa fn K = He5.valA fn
def obsPG (n : Nat) (fa : List (Frg → Bool)) (fn : List DefA) (g : Addr → Option Obj) : He.AlD := obsP fa fn (He.frG g (He5.asA g n))
def hookP (n : Nat) (fa : List (Frg → Bool)) (fn : List DefA) : PySem.W.Hook where
  α := He.AlD
  obs := fun s => obsPG n fa fn s.heap.get?
  val := fun _ => He5.valA fn
  says := fun _ h => ∃ K : Frg, K.In h ∧ SaysP fa fn K
  of := fun _ _ e => ⟨_, He.frG_in, e⟩
  keeps := fun _ _ _ ⟨K, hK, c⟩ k => ⟨K, PySem.W.Frag.In.keeps hK k, c⟩
theorem obsPG_eq {n : Nat} {fa : List (Frg → Bool)} {fn : List DefA} {g : Addr → Option Obj} {s : Shared} (h : ∀ a, g a = s.heap.get? a) : obsPG n fa fn g = (hookP n fa fn).obs s := by
  have e : g = s.heap.get? := funext h
  rw [e] <;> rfl
section
variable {fa : List (Frg → Bool)} {fn : List DefA} {K : Frg}
theorem SaysP.fact (c : SaysP fa fn K) (i : Nat) {f : Frg → Bool} (h : fa[i]? = some f := by rfl) : f K = true := by
  have c1 := (ba (show ((fa.all fun f => f K) && fn.all fun d => d.ok K) = true from congrArg (fun z : He.AlD => z.1) c)).1
  exact List.all_eq_true.mp c1 f (List.mem_of_getElem? h)
theorem SaysP.def_ (c : SaysP fa fn K) (i : Nat) {d : DefA} (h : fn[i]? = some d := by rfl) : ∃ fd, L2.FunD K d.name d.qual d.params d.body d.scope (d.dvs K) (d.kws K) (d.at_ K) fd := by
  have c2 := (ba (show ((fa.all fun f => f K) && fn.all fun d => d.ok K) = true from congrArg (fun z : He.AlD => z.1) c)).2
  have e : fn.map (fun d => He5.fnA K (d.at_ K)) = fn.map He5.DefA.val := congrArg (fun z : He.AlD => z.2) c
  have e2 : (fn.map fun d => He5.fnA K (d.at_ K))[i]? = (fn.map He5.DefA.val)[i]? := by rw [e]
  rw [List.getElem?_map, List.getElem?_map, h] at e2
  exact He5.DefA.funD (Option.some.inj e2) (List.all_eq_true.mp c2 d (List.mem_of_getElem? h))
end
/-! ### facts of one's own -/
abbrev fa (f : He.Fa) : Frg → Bool := fun K => f.ok K
/-- the getter of a property -/
def pgA (K : Frg) (x f : Str) : Addr := match PySem.W.recIn K (ma K (ga K x) f) "property" with
  | some (.ref g :: _) => g
  | _ => 0
def propB (x f : Str) (K : Frg) : Bool := eqO (PySem.W.findIn K (.ref (ga K x)) f) (some (some (.ref (ma K (ga K x) f)))) && (eqO (PySem.W.specialIn K (.ref (ma K (ga K x) f)) "__get__") (some (some (.builtin "property.__get__"))) && (decide (PySem.W.takesIn K (.ref (ma K (ga K x) f)) = some true) &&
  (match PySem.W.recIn K (ma K (ga K x) f) "property" with
  | some (.ref _ :: _) => true
  | _ => false)))
theorem propB_ok {K : Frg} {x f : Str} (h : propB x f K = true) : PropOf K (ga K x) f (ma K (ga K x) f) (pgA K x f) := by
  obtain ⟨h1, h⟩ := ba h
  obtain ⟨h2, h⟩ := ba h
  obtain ⟨h3, h4⟩ := ba h
  refine ⟨eqO_ok h1, eqO_ok h2, of_decide_eq_true h3, ?_⟩
  unfold pgA
  split at h4
  · rename_i g r e
    exact ⟨r, by rw [e]⟩
  · cases h4
def clsIB (x : Str) (K : Frg) : Bool := (He.Fa.cls x).ok K && (eqO (PySem.W.findIn K (.ref (ga K x)) "__class__") (some (some (.builtin "object.__class__"))) && (eqO (PySem.W.specialIn K (.builtin "object.__class__") "__get__") (some (some (.builtin "getset_descriptor.__get__"))) &&
  (decide (PySem.W.takesIn K (.builtin "object.__class__") = some true) && decide (PySem.W.mroIn K (ga K x) (.type "object") = some true))))
theorem clsIB_ok {K : Frg} {x : Str} (h : clsIB x K = true) : ClsI K (ga K x) := by
  obtain ⟨h1, h⟩ := ba h
  obtain ⟨h2, h⟩ := ba h
  obtain ⟨h3, h⟩ := ba h
  obtain ⟨h4, h5⟩ := ba h
  exact ⟨He.cls_ok h1, eqO_ok h2, eqO_ok h3, of_decide_eq_true h4, of_decide_eq_true h5⟩
abbrev tabK (nm : Nat → Str) (K : Frg) : Tab := ⟨K, fun n => ga K (nm n)⟩
def isaB (nm : Nat → Str) (cs : List Nat) (K : Frg) : Bool := (cs.all fun C => clsIB (nm C) K) && ((cs.all fun C => askNames.all fun b => decide (PySem.W.kitOne K (.ref (ga K (nm C))) (.type b) = some false)) && ((cs.all fun C => tyNames.all fun a => decide (PySem.W.kitOne K (.type a) (.ref (ga K (nm C))) = some false)) &&
  cs.all fun C => cs.all fun C' => decide (PySem.W.kitOne K (.ref (ga K (nm C))) (.ref (ga K (nm C'))) = some (C' == C))))
theorem isaB_ok {nm : Nat → Str} {cs : List Nat} {K : Frg} (h : isaB nm cs K = true) : IsaT K (tabK nm K) cs := by
  obtain ⟨h1, h⟩ := ba h
  obtain ⟨h2, h⟩ := ba h
  obtain ⟨h3, h4⟩ := ba h
  exact ⟨fun C hC => clsIB_ok (List.all_eq_true.mp h1 C hC), fun C hC b hb => of_decide_eq_true (List.all_eq_true.mp (List.all_eq_true.mp h2 C hC) b hb),
    fun C hC b hb => of_decide_eq_true (List.all_eq_true.mp (List.all_eq_true.mp h3 C hC) b hb), fun C hC b hb => of_decide_eq_true (List.all_eq_true.mp (List.all_eq_true.mp h4 C hC) b hb)⟩
def eqB (x : Str) (K : Frg) : Bool := clsIB x K && (eqO (PySem.W.findIn K (.ref (ga K x)) "__ne__") (some (some (.builtin "object.__ne__"))) && (["NoneType", "bool", "int", "str", "tuple", "list", "dict"] : List String).all fun t => decide (PySem.W.subIn K (.type t) (.ref (ga K x)) = some false))
theorem eqB_ok {nm : Nat → Str} {C : Nat} {K : Frg} (h : eqB (nm C) K = true) : CEq K (tabK nm K) C := by
  obtain ⟨h1, h⟩ := ba h
  obtain ⟨h2, h3⟩ := ba h
  exact ⟨clsIB_ok h1, eqO_ok h2, fun t ht => of_decide_eq_true (List.all_eq_true.mp h3 t ht)⟩
/-- a constant of a class -/
def conB (x f : Str) (v : V) (K : Frg) : Bool := (He.Fa.glo x).ok K && (PySem.W.readsIn K (ga K x) (.type "type") && (eqO (PySem.W.specialIn K (.ref (ga K x)) "__getattribute__") (some (some (.builtin "type.__getattribute__"))) &&
  (match PySem.W.findCls K (.ref (ga K x)) (.type "type") f with
  | some (.val u) => He.relB v u
  | _ => false)))
theorem conB_ok {K : Frg} {h : Heap} {mg : Str → Option Value} {x f : Str} {v : V} (X : K.In h) (G : h.Ns mainGlobals mg) (c : conB x f v K = true) : ∃ u, CConst K mg x f (ga K x) (.type "type") v u := by
  obtain ⟨h1, c⟩ := ba c
  obtain ⟨h2, c⟩ := ba c
  obtain ⟨h3, h4⟩ := ba c
  split at h4
  · rename_i u e
    exact ⟨u, He.glo_ok X G h1, ⟨h2, eqO_ok h3⟩, ⟨e, He.relB_ok h4⟩⟩
  · cases h4
/-- the empty tuple among a def's defaults -/
def tup0B (p : Frg → Addr) (K : Frg) : Bool := match K.lookup (p K) with
  | some ⟨.type c, _, .seq its _, _⟩ => decide (c = "tuple") && decide (its.size = 0)
  | _ => false
theorem tup0B_ok {K : Frg} {p : Frg → Addr} (h : tup0B p K = true) (H : Hp) : SqT K H (p K) [] := by
  unfold tup0B at h
  cases q : K.lookup (p K) with
  | none =>
    rw [q] at h
    cases h
  | some o =>
    obtain ⟨oc, od, dt, osl⟩ := o
    rw [q] at h
    cases oc with
    | type c =>
      cases dt with
      | seq its n =>
        obtain ⟨h1, h2⟩ := ba (show (decide (c = "tuple") && decide (its.size = 0)) = true from h)
        have e : its = #[] := Array.eq_empty_of_size_eq_zero (of_decide_eq_true h2)
        subst e
        refine .inr ⟨_, #[], n, q, congrArg Value.type (of_decide_eq_true h1), rfl, by simp, .nil⟩
      | _ => cases h
    | _ => cases dt <;> cases h
theorem d_tup0 {K : Frg} {p : Frg → Addr} {nm : Nat → Str} {own : Addr → Prop} {H : Hp} (h : tup0B p K = true) : Dr (tabK nm K) own H (.tup []) (.ref (p K)) := by
  refine ⟨p K, [], rfl, ?_, rfl⟩
  rcases tup0B_ok h (fun _ => none) with q | q
  · rcases q with q | ⟨_, q⟩ <;> cases q
  · exact .inr ⟨by simp, q⟩
/-! ### how a call binds -/
section
variable {K : Frg} {x qual : Str} {params : Arguments} {body : List Stmt} {scope : Scope} {dvs : List V} {kws : List (Str × V)} {f : Addr} {fd : FuncData} {ps : List Str}
theorem vals_du : ∀ {dds : List D} {dv : D → V} {its : List Value}, dds.Nodup → Vals (dds.map dv) its → ∃ du : D → Value, its = dds.map du ∧ ∀ d ∈ dds, RelV (dv d) (du d)
  | [], dv, its, _, r => by
    cases r
    exact ⟨fun _ => .none, rfl, fun d z => nomatch z⟩
  | a :: dds, dv, its, nd, r => by
    cases r with
    | cons r0 r1 =>
      rename_i u us
      obtain ⟨du, e, h⟩ := vals_du (List.nodup_cons.mp nd).2 r1
      classical
      refine ⟨fun d => if d = a then u else du d, ?_, fun d hd => ?_⟩
      · rw [List.map_cons, if_pos rfl, e]
        refine congrArg _ (List.map_congr_left fun d hd => ?_)
        rw [if_neg]
        intro z
        exact (List.nodup_cons.mp nd).1 (z ▸ hd)
      · dsimp only
        split
        · rename_i z
          subst z
          exact r0
        · rename_i z
          exact h d ((List.mem_cons.mp hd).resolve_left z)
/-- defaults dds at hand -/
theorem bindG_dfl {n : Nat} {ks : List Str} {g : List (Nat ⊕ D)} {dds : List D} {dv : D → V} (F : FunD K x qual params body scope dvs kws f fd) (hd : dvs ≠ []) (hdd : dvs = dds.map dv) (hn : dds.Nodup) (nd : (inls g).Nodup) (hg : ∀ d, .inr d ∈ g → d ∈ dds)
    (h : ∀ (T : Addr) (kV doc pm : Value) (an : Option Addr) (cdv ct : Value) (us ws zs : List Value) (du : D → Value), us.length = n → ws.length = ks.length → arrX du (us ++ ws) g = some zs →
      ∃ k, bindArgs (PySem.W.fnOf x qual params body scope (.ref T) kV doc pm an cdv ct) ⟨us, ks.zip ws⟩ = seqItems? (.ref T) >>= k ∧ k (some (dds.map du).toArray) = pure (ps.zip zs)) : BindG K fd ps n ks g dv := by
  obtain ⟨oc, od, dV, kV, doc, pm, an, cdv, ct, osl, rfl, lk, hcd, hD, hK⟩ := F.ex
  rcases hD with ⟨e, _⟩ | ⟨_, T, o, its, m, rfl, lT, oT, rT⟩
  · exact absurd e hd
  · subst hdd
    obtain ⟨du, rfl, hr⟩ := vals_du hn rT
    refine ⟨nd, du, fun d hd => hr d (hg d hd), fun s us ws zs X l1 l2 e => ?_⟩
    obtain ⟨k, e1, e2⟩ := h T kV doc pm an cdv ct us ws zs du l1 l2 e
    refine BindsTo.of_looks fun M => ?_
    rw [e1]
    exact looks_items X lT oT (.of_pure e2)
/-- no defaults -/
theorem bindG_no {n : Nat} {ks : List Str} {g : List (Nat ⊕ D)} (F : FunD K x qual params body scope [] kws f fd) (nd : (inls g).Nodup) (hg : ∀ d, .inr d ∉ g)
    (h : ∀ (kV doc pm : Value) (an : Option Addr) (cdv ct : Value) (us ws zs : List Value), us.length = n → ws.length = ks.length → arrX (fun _ => .none) (us ++ ws) g = some zs →
      bindArgs (PySem.W.fnOf x qual params body scope .none kV doc pm an cdv ct) ⟨us, ks.zip ws⟩ = pure (ps.zip zs)) : BindG K fd ps n ks g (fun _ => .non) := by
  obtain ⟨oc, od, dV, kV, doc, pm, an, cdv, ct, osl, rfl, lk, hcd, hD, hK⟩ := F.ex
  rcases hD with ⟨_, rfl⟩ | ⟨e, _⟩
  · exact ⟨nd, fun _ => .none, fun d hd => absurd hd (hg d), fun s us ws zs X l1 l2 e => .of_eq (h kV doc pm an cdv ct us ws zs l1 l2 e)⟩
  · exact absurd rfl e
end
theorem ints_dr {T : Tab} {own : Addr → Prop} {H : Hp} : ∀ ns : List Int, DrL T own H (ns.map .int) (ns.map V.int)
  | [] => rfl
  | n :: ns => ⟨.int n, ns.map V.int, rfl, rfl, ints_dr ns⟩
theorem walk_pv {l : PySem.W.OpenLaw} {n k : Nat} {q : Program} {loose : List Str} {XP : (Str → Option Value) → Heap → Prop} {YP : World → Heap → Prop} {d : DefRec} {x : Str}
    (hn : l.most = some n) (hn2 : n ≤ sizeLine) (hdf : d.params.defaults = []) (hr : Room k callerA)
    (F : ∀ (w : World) (mg : Str → Option Value) (fa : Addr) (h : Heap), YP w h → h.Ns mainGlobals mg → mg d.name = some (.ref fa) →
      ∃ (K : Frg) (fd : FuncData) (sp : Sp), K.In h ∧ (∀ (s : Shared) (u : Value), BindsTo s fd ⟨[u], []⟩ [(x, u)]) ∧
        (∀ (H : Hp) (a : Addr) (ns : List Int), ns.length ≤ n → Only H → SqL K H a (ns.map V.int) → sp [.ref a] H (fun v _ => v = .bl true) fun _ _ _ => False) ∧
        ∀ base : Heap, K.In base → base.Ns mainGlobals mg → FnOk l.prog w K mg base (L2.CX l.prog w) k fa fd [x] sp) :
    PySem.W.WalkO q loose XP YP l.row.toRowW d [] (fun f vs => PySem.call f vs) := by
  refine Att.attach_call hn hdf fun w s₀ s₁ mg mb fa o pm cd doc a vs ns G Y ho hd hcd hmg hobj hints hlen hg => ?_
  obtain ⟨K, fd, sp, KX, hb, hsp, hF⟩ := F w mg fa _ Y G.T.g hmg
  exact law_call KX G.T.g G.T.b G.T.builtins G.T.nolimit hg hobj hints (Nat.le_trans hlen hn2) hr hF hb (fun H hO hS => hsp H a ns hlen hO hS) fun H e s' ⟨_, _, _, _, _, _, _, _, _, _, _, _, z⟩ => z
theorem bindsF {K : Frg} {x qual : Str} {params : Arguments} {body : List Stmt} {scope : Scope} {dvs : List V} {kws : List (Str × V)} {f : Addr} {fd : FuncData} {ps : List Str} (F : FunD K x qual params body scope dvs kws f fd) (hd : dvs ≠ [])
    (h : ∀ (T : Addr) (kV doc pm : Value) (an : Option Addr) (cdv ct : Value) (us its : List Value), us.length = ps.length → its.length = dvs.length →
      ∃ k, bindArgs (PySem.W.fnOf x qual params body scope (.ref T) kV doc pm an cdv ct) ⟨us, []⟩ = seqItems? (.ref T) >>= k ∧ k (some its.toArray) = pure (ps.zip us)) : Binds K fd ps [] := by
  obtain ⟨ds, h1, h2⟩ := F.binds1 (ps := ps) ps.length dvs.length hd (by omega) fun T kV doc pm an cdv ct us its l1 l2 => by
    obtain ⟨k, e1, e2⟩ := h T kV doc pm an cdv ct us its l1 l2
    refine ⟨k, e1, ?_⟩
    rw [List.drop_of_length_le (by omega), List.append_nil]
    exact e2
  rw [List.drop_of_length_le (Nat.le_refl _)] at h1
  cases h1
  exact h2
/-- the script: a list of numbers, lent to the law -/
theorem law_sp {K : Frg} {nm : Nat → Str} {run : List O → FRes} {H : Hp} {a : Addr} {ns : List Int} (hO : Only H) (hS : SqL K H a (ns.map V.int)) (h : ∃ o, run [.d (.lst (ns.map .int))] = .ok (.d (.bl true)) [o]) : spOf (tabK nm K) run [.ref a] H (fun v _ => v = .bl true) fun _ _ _ => False := by
  obtain ⟨o, h⟩ := h
  have hv : ∀ a, vw (fun _ => False) H a = H a := fun a => vw_free id
  have hD : Dr (tabK nm K) (fun a => False ∨ a ∈ ([] : List Addr) ++ []) (vw (fun _ => False) H) (.lst (ns.map .int)) (.ref a) := by
    refine ⟨a, ns.map V.int, rfl, ?_, ints_dr ns⟩
    rcases hS with q | q
    · exact .inl ⟨by simp, by rw [show vw (fun _ => False) H = H from funext hv]; exact q⟩
    · exact .inr q
  refine ⟨⟨fun _ => False, fun _ => False, H, fun _ => False, [], fun _ => default⟩, [.d (.lst (ns.map .int))], [], rfl, ⟨fun a z => z.elim, fun a u e _ => (hv a).trans e, fun a z => z.elim, fun a z => z.elim, [], ⟨[], [], rfl, ⟨rfl, hD⟩, rfl⟩, List.nodup_nil, fun a z => by cases z⟩, ?_⟩
  rw [h]
  intro u H' _ s
  have d := s.read
  exact d
end PV
/-! PV35: a dict walked: it is locked for so long -/
namespace PV
open PySem PySem.Spec PyProof.Rows L2
def Base.lock (B : Base) (d : Addr) (u : HO) (od : Obj) (i : Nat) : Base :=
  ⟨B.G, fun a => B.Z a ∨ a = d, fun a => if a = d then some u else B.H0 a, fun a => B.IO a ∧ a ≠ d, (i, .ref d) :: B.pr, fun a => if a = d then od else B.zo a⟩
/-- the dict in slot i is locked -/
def LkIn (B : Base) (i : Nat) : Prop := ∃ d u, (i, V.ref d) ∈ B.pr ∧ B.Z d ∧ B.H0 d = some u ∧ ¬ B.IO d
section
variable {T : Tab} {B : Base} {Φ : Phi} {W : WX} {X : Cx} {H H' H3 : Hp} {l m : List It1} {d : Addr} {u : HO} {od : Obj} {i : Nat}
/-- what a locked dict is -/
theorem lk_at (s : Sat T B H l) (z : B.Z d) (e : B.H0 d = some u) (n : ¬ B.IO d) : H d = some (.frz (B.zo d) u) ∧ LD u := by
  obtain ⟨u2, e2, mu⟩ := s.lk d z
  have q := s.old d u e n
  have : vw B.Z H d = some u2 := by
    unfold vw
    rw [e2]
    dsimp only
    rw [if_pos z]
  rw [q] at this
  cases this
  exact ⟨e2, mu⟩
theorem lock_fwd (s : Sat T B H l) (hv : vw (B.lock d u od i).Z H' = vw B.Z H) (hd : H' d = some (.frz od u)) (mu : LD u) (hu : vw B.Z H d = some u) (ho : ∀ a, a ≠ d → H' a = H a) (hf : ∀ F, Reps T (fun a => B.G a ∨ a ∈ ([] : List Addr) ++ F) (vw B.Z H) l F → d ∉ F) : Sat T (B.lock d u od i) H' l := by
  obtain ⟨F, r, nd, c⟩ := s.reps
  have nF := hf F r
  refine ⟨fun a ha => ?_, fun a o e hi => ?_, fun a ha => ?_, fun a ha => ?_, F, ?_, nd, fun a ha => ?_⟩
  · by_cases q : a = d
    · subst q
      exact ⟨u, by rw [hd]; show _ = some (HO.frz (if a = a then od else B.zo a) u); rw [if_pos rfl], mu⟩
    · have ha : B.Z a := ha.resolve_right q
      obtain ⟨u2, e2, m2⟩ := s.lk a ha
      exact ⟨u2, by rw [ho a q, e2]; show _ = some (HO.frz (if a = d then od else B.zo a) u2); rw [if_neg q], m2⟩
  · rw [hv]
    have e : (if a = d then some u else B.H0 a) = some o := e
    by_cases q : a = d
    · rw [if_pos q] at e
      cases e
      rw [q]
      exact hu
    · rw [if_neg q] at e
      exact s.old a o e fun z => hi ⟨z, q⟩
  · obtain ⟨h1, h2⟩ := s.oth a ha
    refine ⟨fun z => h1 z.1, ?_⟩
    show (if a = d then some u else B.H0 a) ≠ none
    split
    · simp
    · exact h2
  · rw [ho a ha.2]
    exact s.io a ha.1
  · rw [hv]
    exact r
  · obtain ⟨c1, c2, c3, c4⟩ := c a ha
    have q : a ≠ d := fun z => nF (by rw [← z]; simpa using ha)
    refine ⟨c1, ?_, fun z => z.elim c3 q, by rw [ho a q]; exact c4⟩
    rcases c2 with z | z
    · exact .inl ⟨z, q⟩
    · exact .inr (by show (if a = d then some u else B.H0 a) = none; rw [if_neg q]; exact z)
theorem lock_bwd (s : Sat T (B.lock d u od i) H' l) (hv : vw B.Z H3 = vw (B.lock d u od i).Z H') (hu : vw B.Z H3 d = some u) (ho : ∀ a, a ≠ d → H3 a = H' a) (hz : B.Z d → H3 d = H' d ∧ od = B.zo d) (h0 : ∀ o, B.H0 d = some o → ¬ B.IO d → o = u) (oth : ∀ a, B.G a → ¬ B.IO a ∧ B.H0 a ≠ none) : Sat T B H3 l := by
  obtain ⟨F, r, nd, c⟩ := s.reps
  refine ⟨fun a ha => ?_, fun a o e hi => ?_, oth, fun a ha => ?_, F, ?_, nd, fun a ha => ?_⟩
  · obtain ⟨u2, e2, m2⟩ := s.lk a (.inl ha)
    by_cases q : a = d
    · subst q
      obtain ⟨h1, h2⟩ := hz ha
      refine ⟨u2, ?_, m2⟩
      rw [h1, e2]
      show some (HO.frz (if a = a then od else B.zo a) u2) = _
      rw [if_pos rfl, h2]
    · refine ⟨u2, ?_, m2⟩
      rw [ho a q, e2]
      show some (HO.frz (if a = d then od else B.zo a) u2) = _
      rw [if_neg q]
  · by_cases q : a = d
    · subst q
      rw [hu, h0 o e hi]
    · rw [hv]
      exact s.old a o (by show (if a = d then some u else B.H0 a) = some o; rw [if_neg q]; exact e) fun z => hi z.1
  · by_cases q : a = d
    · subst q
      intro z
      rw [vw_none.mpr z] at hu
      cases hu
    · rw [ho a q]
      exact s.io a ⟨ha, q⟩
  · rw [hv]
    exact r
  · obtain ⟨c1, c2, c3, c4⟩ := c a ha
    have q : a ≠ d := fun z => c3 (.inr z)
    refine ⟨c1, ?_, fun z => c3 (.inl z), by rw [ho a q]; exact c4⟩
    rcases c2 with z | z
    · exact .inl z.1
    · have z : (if a = d then some u else B.H0 a) = none := z
      rw [if_neg q] at z
      exact .inr z
theorem vw_congr {L L' : Addr → Prop} {a : Addr} (h : L a ↔ L' a) : vw L H a = vw L' H a := by
  unfold vw
  split
  · by_cases z : L a
    · rw [if_pos z, if_pos (h.mp z)]
    · rw [if_neg z, if_neg fun q => z (h.mpr q)]
  · rfl
theorem vw_at {L : Addr → Prop} {a : Addr} (e : H' a = H a) : vw L H' a = vw L H a := by
  unfold vw
  rw [e]
theorem lock_vw (hz : ¬ B.Z d) (hd : H d = some u) (hl : LD u) : vw (B.lock d u od i).Z (upd H d (.frz od u)) = vw B.Z H := by
  funext a
  by_cases q : a = d
  · subst q
    rw [vw_free hz, hd]
    unfold vw
    rw [upd_same]
    dsimp only
    rw [if_pos (.inr rfl)]
  · exact (vw_at (upd_ne q)).trans (vw_congr ⟨fun z => z.resolve_right q, .inl⟩)
theorem lock_vwZ (hz : B.Z d) : vw (B.lock d u od i).Z H = vw B.Z H := by
  funext a
  exact vw_congr ⟨fun z => z.elim id fun q => q ▸ hz, .inl⟩
/-! ### the rules -/
theorem keysD_of {o : O} {ds : List D} (h : keysD o = some ds) : ∃ xs js, o = .d (.dic ds xs) ∧ keysOf ds = some js := by
  unfold keysD at h
  cases o with
  | d x =>
    cases x with
    | dic ks xs =>
      have h : (keysOf ks).map (fun _ => ks) = some ds := h
      cases e : keysOf ks with
      | none => rw [e] at h; cases h
      | some js =>
        rw [e] at h
        cases h
        exact ⟨xs, js, rfl, e⟩
    | _ => cases h
  | _ => cases h
theorem PrIn.lock {L : List Nat} (h : PrIn B L) : PrIn (B.lock d u od i) (i :: L) := fun p hp => by
  rcases List.mem_cons.mp hp with rfl | q
  · exact List.mem_cons_self
  · exact List.mem_cons_of_mem _ (h p q)
/-- a dict at hand is no one's own -/
theorem dic_own {ks xs : List D} {v : V} (s : Sat T B H ((.d (.dic ks xs), v) :: l)) : ∃ d u, v = .ref d ∧ vw B.Z H d = some u ∧ LD u ∧ (∀ F, Reps T (fun a => B.G a ∨ a ∈ ([] : List Addr) ++ F) (vw B.Z H) ((.d (.dic ks xs), v) :: l) F → d ∉ F) ∧
    ((∃ js vs, keysOf ks = some js ∧ u = .dK (js.zip vs) ∧ js.length = vs.length) ∨ (∃ js vs, tkeysOf ks = some js ∧ u = .dT (js.zip vs) ∧ js.length = vs.length)) := by
  obtain ⟨F, ⟨F1, F2, rfl, ⟨rfl, d, vs, rfl, nown, alt, dl⟩, r2⟩, nd, c⟩ := s.reps
  have hf : ∀ F, Reps T (fun a => B.G a ∨ a ∈ ([] : List Addr) ++ F) (vw B.Z H) ((.d (.dic ks xs), .ref d) :: l) F → d ∉ F := by
    rintro F ⟨F1, F2, rfl, ⟨rfl, d2, vs2, e, n2, _, _⟩, _⟩ z
    cases e
    exact n2 (.inr (by simpa using z))
  rcases alt with ⟨js, q1, q2, q3⟩ | ⟨js, q1, q2, q3⟩
  · exact ⟨d, _, rfl, q2, trivial, hf, .inl ⟨js, vs, q1, rfl, q3⟩⟩
  · exact ⟨d, _, rfl, q2, trivial, hf, .inr ⟨js, vs, q1, rfl, q3⟩⟩
theorem lock_at {L : List Nat} {ρ : Env} {σ : L2.St} {o : O} {ks : List D} (pr : PrIn B L) (a : At T B H ρ σ l) (eo : slotE ρ i = some o) (ek : keysD (.d o.frz) = some ks) :
    (∃ B', PrIn B' (i :: L) ∧ LkIn B' i ∧ At T B' H (ρ.set i (some (.d o.frz))) σ l ∧ ∀ H2 ρ2 σ2 m, At T B' H2 ρ2 σ2 m → At T B H2 ρ2 σ2 m) ∨
    ∃ d u, H d = some u ∧ Mut (some u) ∧ ∀ od, ∃ B', PrIn B' (i :: L) ∧ LkIn B' i ∧ At T B' (upd H d (.frz od u)) (ρ.set i (some (.d o.frz))) σ l ∧ ∀ H2 ρ2 σ2 m, At T B' H2 ρ2 σ2 m → H2 d = some (.frz od u) ∧ At T B (upd H2 d u) ρ2 σ2 m := by
  obtain ⟨xs, js, ed, ej⟩ := keysD_of ek
  injection ed with ed
  obtain ⟨v, evi⟩ := a.ok.at eo
  have t := a.take eo evi
  have hi := slot_lt eo
  have t2 : At T B H (ρ.set i none) σ ((.d o.frz, v) :: (.d o.frz, v) :: l) := ⟨t.ok, ((t.sat.perm List.perm_middle).freeze.dup).perm (List.perm_middle.trans (List.perm_middle.cons _)).symm, t.pr⟩
  have t3 := t2.fill (i := i) (by unfold slotE; rw [List.getElem?_set_self hi]; rfl) (by simpa using hi) evi
  rw [List.set_set, ed] at t3
  rw [ed]
  have sd : Sat T B H ((.d (.dic ks xs), v) :: (envIts (ρ.set i (some (.d (.dic ks xs)))) σ ++ l)) := t3.sat.perm List.perm_middle
  have a1 : At T B H (ρ.set i (some (.d (.dic ks xs)))) σ l := t3.drop
  obtain ⟨d, u, rfl, hu, mu, hf, _⟩ := dic_own sd
  have h0 : ∀ o, B.H0 d = some o → ¬ B.IO d → o = u := fun o e n => by
    have := sd.old d o e n
    rw [hu] at this
    cases this
    rfl
  have lk' : ∀ od, LkIn (B.lock d u od i) i := fun od => ⟨d, u, List.mem_cons_self, .inr rfl, if_pos rfl, fun z => z.2 rfl⟩
  have pr' : ∀ od, ∀ p ∈ (B.lock d u od i).pr, σ[p.1]? = some (some p.2) := fun od p hp => by
    rcases List.mem_cons.mp hp with rfl | q
    · exact evi
    · exact a1.pr p q
  by_cases hz : B.Z d
  · obtain ⟨u2, e2, _⟩ := sd.lk d hz
    have hh : u2 = u := by
      have q : vw B.Z H d = some u2 := by
        unfold vw
        rw [e2]
        dsimp only
        rw [if_pos hz]
      rw [hu] at q
      cases q
      rfl
    subst hh
    have S' := lock_fwd (i := i) sd (lock_vwZ hz) e2 mu hu (fun _ _ => rfl) hf
    refine .inl ⟨_, pr.lock, lk' (B.zo d), ⟨a1.ok, S'.drop1, pr' _⟩, fun H2 ρ2 σ2 m a2 => ?_⟩
    obtain ⟨q1, q2⟩ := lk_at a2.sat (d := d) (u := u2) (.inr rfl) (if_pos rfl) fun z => z.2 rfl
    have hu2 : vw B.Z H2 d = some u2 := by
      unfold vw
      rw [q1]
      dsimp only
      rw [if_pos hz]
    exact ⟨a2.ok, lock_bwd a2.sat (lock_vwZ hz).symm hu2 (fun _ _ => rfl) (fun _ => ⟨rfl, rfl⟩) h0 sd.oth, fun p hp => a2.pr p (List.mem_cons_of_mem _ hp)⟩
  · have hd : H d = some u := (vw_free hz).symm.trans hu
    have hm : Mut (some u) := by
      cases u <;> first | exact mu.elim | trivial
    refine .inr ⟨d, u, hd, hm, fun od => ⟨_, pr.lock, lk' od, ⟨a1.ok, (lock_fwd (i := i) sd (lock_vw hz hd mu) upd_same mu hu (fun _ q => upd_ne q) hf).drop1, pr' _⟩, fun H2 ρ2 σ2 m a2 => ?_⟩⟩
    obtain ⟨q1, q2⟩ := lk_at a2.sat (d := d) (u := u) (.inr rfl) (if_pos rfl) fun z => z.2 rfl
    have q1 : H2 d = some (.frz od u) := by rw [q1]; show some (HO.frz (if d = d then od else B.zo d) u) = _; rw [if_pos rfl]
    refine ⟨q1, ⟨a2.ok, lock_bwd a2.sat ?_ ?_ (fun _ q => upd_ne q) (fun z => (hz z).elim) h0 sd.oth, fun p hp => a2.pr p (List.mem_cons_of_mem _ hp)⟩⟩
    · funext a
      by_cases q : a = d
      · subst q
        rw [vw_free hz, upd_same]
        unfold vw
        rw [q1]
        dsimp only
        rw [if_pos (.inr rfl)]
      · exact (vw_at (upd_ne q)).trans (vw_congr ⟨.inl, fun z => z.resolve_right q⟩)
    · rw [vw_free hz, upd_same]
/-- the dict in slot i is locked while e stands -/
theorem s_lck {L : List Nat} {e : Expr} {se : SE} (pr : PrIn B L) (h : ∀ B', PrIn B' (i :: L) → LkIn B' i → PE X e (tE T B' Φ WF se)) : PE X e (tE T B Φ W (.lck i se)) := by
  refine ⟨fun pins s σ H Q I ⟨ρ, l, a, r⟩ => ?_⟩
  have r : RG T B W σ l (bnd (slotE ρ i) fun o => bnd (keysD (.d o.frz)) fun _ => (ev Φ se (ρ.set i (some (.d o.frz)))).noX) fun o ρ => ∀ v H, At T B H ρ σ ((o, v) :: l) → Q v H := by rw [ev] at r; exact r.rg
  obtain ⟨o, eo, r1⟩ := r.bnd
  obtain ⟨ks, ek, r2⟩ := r1.bnd
  have ht : PE X e (fun σ H Q => ∃ B', PrIn B' (i :: L) ∧ LkIn B' i ∧ tE T B' Φ WF se σ H Q) := ⟨fun pins s σ H Q I ⟨B', p, k, hh⟩ => (h B' p k).run pins s σ H Q I hh⟩
  rcases lock_at pr a eo ek with ⟨B', p1, p2, p3, p4⟩ | ⟨d, u, hd, hm, p⟩
  · refine ht.run pins s σ H Q I ⟨B', p1, p2, _, l, p3, RG.rp ?_⟩
    cases er : ev Φ se (ρ.set i (some (.d o.frz))) with
    | bad => rw [er] at r2; exact r2.elim
    | exc C p ρ2 => rw [er] at r2; exact r2.elim
    | ok o2 ρ2 =>
      rw [er] at r2
      exact fun v H2 a2 => r2 v H2 (p4 _ _ _ _ a2)
  · refine (pe_lock ht).run pins s σ H Q I ⟨d, u, hd, hm, fun od => ?_⟩
    obtain ⟨B', p1, p2, p3, p4⟩ := p od
    refine ⟨B', p1, p2, _, l, p3, RG.rp ?_⟩
    cases er : ev Φ se (ρ.set i (some (.d o.frz))) with
    | bad => rw [er] at r2; exact r2.elim
    | exc C p ρ2 => rw [er] at r2; exact r2.elim
    | ok o2 ρ2 =>
      rw [er] at r2
      intro v H2 a2
      obtain ⟨q1, q2⟩ := p4 _ _ _ _ a2
      exact ⟨q1, r2 v _ q2⟩
/-- .. while a statement runs -/
theorem st_lck {L : List Nat} {st : Stmt} {ss : SS} (pr : PrIn B L) (h : ∀ B', PrIn B' (i :: L) → LkIn B' i → PS X st (tS T B' Φ WF ss)) : PS X st (tS T B Φ W (.lck i ss)) := by
  refine ⟨fun pins s σ H D I ⟨ρ, l, a, r⟩ => ?_⟩
  rw [evS] at r
  obtain ⟨o, eo, r1⟩ := r.bnd
  obtain ⟨ks, ek, r2⟩ := r1.bnd
  have ht : PS X st (fun D σ H => ∃ B', PrIn B' (i :: L) ∧ LkIn B' i ∧ tS T B' Φ WF ss D σ H) := ⟨fun pins s σ H D I ⟨B', p, k, hh⟩ => (h B' p k).run pins s σ H D I hh⟩
  rcases lock_at pr a eo ek with ⟨B', p1, p2, p3, p4⟩ | ⟨d, u, hd, hm, p⟩
  · refine ht.run pins s σ H D I ⟨B', p1, p2, _, l, p3, ?_⟩
    cases er : evS Φ ss (ρ.set i (some (.d o.frz))) with
    | bad => rw [er] at r2; exact r2.elim
    | exc C p ρ2 => rw [er] at r2; exact r2.elim
    | ok f ρ2 =>
      rw [er] at r2
      cases f with
      | nx => exact fun σ2 H2 a2 => r2 σ2 H2 (p4 _ _ _ _ a2)
      | bk => exact fun σ2 H2 a2 => r2 σ2 H2 (p4 _ _ _ _ a2)
      | ct => exact fun σ2 H2 a2 => r2 σ2 H2 (p4 _ _ _ _ a2)
      | rt o2 => exact fun σ2 v H2 a2 => r2 σ2 v H2 (p4 _ _ _ _ a2)
  · refine (ps_lock ht).run pins s σ H D I ⟨d, u, hd, hm, fun od => ?_⟩
    obtain ⟨B', p1, p2, p3, p4⟩ := p od
    refine ⟨B', p1, p2, _, l, p3, ?_⟩
    cases er : evS Φ ss (ρ.set i (some (.d o.frz))) with
    | bad => rw [er] at r2; exact r2.elim
    | exc C p ρ2 => rw [er] at r2; exact r2.elim
    | ok f ρ2 =>
      rw [er] at r2
      cases f with
      | nx => exact fun σ2 H2 a2 => ⟨(p4 _ _ _ _ a2).1, r2 σ2 _ (p4 _ _ _ _ a2).2⟩
      | bk => exact fun σ2 H2 a2 => ⟨(p4 _ _ _ _ a2).1, r2 σ2 _ (p4 _ _ _ _ a2).2⟩
      | ct => exact fun σ2 H2 a2 => ⟨(p4 _ _ _ _ a2).1, r2 σ2 _ (p4 _ _ _ _ a2).2⟩
      | rt o2 => exact fun σ2 v H2 a2 => ⟨(p4 _ _ _ _ a2).1, r2 σ2 v _ (p4 _ _ _ _ a2).2⟩
/-- the keys of the locked dict -/
theorem key_d {k : D} {j : Key} (h : keyOf k = some j) {v : V} (e : v = kV j) (s : Sat T B H l) : Sat T B H ((.d k, v) :: l) := by
  subst e
  cases k with
  | int n =>
    have h : some (Sum.inl n) = some j := h
    cases h
    exact s.int
  | str z =>
    have h : some (Sum.inr z) = some j := h
    cases h
    exact s.str
  | _ => cases h
theorem keys_nth : ∀ {ks : List D} {js : List Key} {i : Nat} {j : Key}, keysOf ks = some js → js[i]? = some j → ∃ k, ks[i]? = some k ∧ keyOf k = some j
  | [], js, i, j, h, hj => by
    cases h
    simp at hj
  | k :: ks, js, i, j, h, hj => by
    unfold keysOf at h
    cases e1 : keyOf k with
    | none => rw [e1] at h; cases h
    | some k0 =>
      cases e2 : keysOf ks with
      | none => rw [e1, e2] at h; cases h
      | some js0 =>
        rw [e1, e2] at h
        cases h
        cases i with
        | zero =>
          cases hj
          exact ⟨k, rfl, e1⟩
        | succ n =>
          obtain ⟨k2, h1, h2⟩ := keys_nth (i := n) e2 (by simpa using hj)
          exact ⟨k2, by simpa using h1, h2⟩
theorem keys_len : ∀ {ks : List D} {js : List Key}, keysOf ks = some js → js.length = ks.length
  | [], js, h => by
    cases h
    rfl
  | k :: ks, js, h => by
    unfold keysOf at h
    cases e1 : keyOf k with
    | none => rw [e1] at h; cases h
    | some k0 =>
      cases e2 : keysOf ks with
      | none => rw [e1, e2] at h; cases h
      | some js0 =>
        rw [e1, e2] at h
        cases h
        rw [List.length_cons, List.length_cons, keys_len e2]
theorem i_keys {x : Str} {pos : Pos} {tg : Expr} (lk : LkIn B i) (hN : X.N[i]? = some x) (hv : Vis X.env.scope x) (hdb : (x == ("__debug__" : Str)) = false) (hc : (x == ("__classdict__" : Str)) = false) : PI X tg (.Name x pos) (tI T B Φ W (.keys i)) := by
  refine ⟨fun pins s σ H R I ⟨ρ, l, a, r⟩ => (pi_keys (pe_var hN hv hdb hc)).run pins s σ H R I ?_⟩
  rw [evI] at r
  obtain ⟨o, eo, r1⟩ := r.bnd
  obtain ⟨ks, ek, r2⟩ := r1.bnd
  clear r r1
  obtain ⟨xs, js, rfl, ej⟩ := keysD_of ek
  obtain ⟨v, evi⟩ := a.ok.at eo
  obtain ⟨d, u, m1, m2, m3, m4⟩ := lk
  have q := a.pr _ m1
  have q : σ[i]? = some (some (V.ref d)) := q
  rw [evi] at q
  cases q
  have t := a.take eo evi
  have sd : Sat T B H ((.d (.dic ks xs), .ref d) :: (envIts (ρ.set i none) σ ++ l)) := t.sat.perm List.perm_middle
  obtain ⟨d', u', e1, hu, mu, hf, alt⟩ := dic_own sd
  cases e1
  obtain ⟨p1, p2⟩ := lk_at a.sat m2 m3 m4
  have p3 := a.sat.old d u m3 m4
  rw [hu] at p3
  cases p3
  refine ⟨.ref d, evi, d, B.zo d, rfl, ?_⟩
  have go : ∀ {H' : Hp} {l' : List It1}, Sat T B H' l' → H' d = some (.frz (B.zo d) u) := fun s => (lk_at s m2 m3 m4).1
  rcases alt with ⟨js', vs, k1, rfl, k3⟩ | ⟨js', vs, k1, rfl, k3⟩
  · rw [ej] at k1
    cases k1
    have hl := keys_len ej
    have hzl : (js.zip vs).length = ks.length := by rw [List.length_zip]; omega
    have ob : ObjOk X.prog X.w H s.heap d (.frz (B.zo d) (.dK (js.zip vs))) := I.hok d _ p1
    have hsz : (js.zip vs).length ≤ sizeLine := ob.2.1
    refine .inl ⟨_, p1, r2 [] _ H rfl trivial (by simpa using a) ⟨fun j H l hj s => ⟨go s, by rw [hzl]; exact hj⟩, fun H l s => ⟨go s, by rw [hzl]; exact Nat.le_refl _⟩, fun j H v H' l hj s y => ?_⟩ (by rw [← hzl]; exact hsz)⟩
    obtain ⟨rfl, k, w, y1, y2⟩ := y
    have hjj : js[j]? = some k := by
      rw [List.getElem?_zip_eq_some] at y1
      exact y1.1
    obtain ⟨dk, e1, e2⟩ := keys_nth ej hjj
    exact ⟨dk, e1, key_d e2 y2 s⟩
  · have hks : ks = [] := by
      cases ks with
      | nil => rfl
      | cons k ks =>
        unfold keysOf at ej
        unfold tkeysOf at k1
        cases k <;> simp [keyOf, tkeyOf] at ej k1
    subst hks
    cases k1
    exact .inr ⟨_, p1, r2 [] _ H rfl trivial (by simpa using a) ⟨fun j H l hj s => by simp at hj, fun H l s => ⟨go s, by simp⟩, fun j H v H' l hj s y => by simp at hj⟩ (by simp)⟩
end
end PV
/-! PV34: what a def gives, by simp -/
namespace PV
open PySem L2
@[simp] theorem p_fetch_val {o : O} {ρ : Env} : fetch (.val o) ρ = .ok o ρ := rfl
@[simp] theorem p_fetch_slot {i : Nat} {ρ : Env} : fetch (.slot i) ρ = bnd (slotE ρ i) fun o => .ok o (fetch.taken o i ρ) := rfl
@[simp] theorem p_taken_d {x : D} {i : Nat} {ρ : Env} : fetch.taken (.d x) i ρ = ρ := rfl
@[simp] theorem p_taken_lst {x : List O} {i : Nat} {ρ : Env} : fetch.taken (.lst x) i ρ = ρ.set i none := rfl
@[simp] theorem p_taken_dic {k : List D} {x : List O} {i : Nat} {ρ : Env} : fetch.taken (.dic k x) i ρ = ρ.set i none := rfl
@[simp] theorem p_taken_obj {C : Nat} {k : List Str} {x : List O} {i : Nat} {ρ : Env} : fetch.taken (.obj C k x) i ρ = ρ.set i none := rfl
@[simp] theorem p_fetchL_nil {ρ : Env} : fetchL [] ρ = .ok [] ρ := rfl
@[simp] theorem p_fetchL_cons {a : Arg} {as : List Arg} {ρ : Env} : fetchL (a :: as) ρ = (fetch a ρ).bind fun o ρ => (fetchL as ρ).bind fun os ρ => .ok (o :: os) ρ := rfl
@[simp] theorem p_frz_d {x : D} : (O.d x).frz = x := by rw [O.frz]
@[simp] theorem p_frz_lst {xs : List O} : (O.lst xs).frz = .lst (xs.map O.frz) := by rw [O.frz, frzL_map]
@[simp] theorem p_frz_dic {k : List D} {xs : List O} : (O.dic k xs).frz = .dic k (xs.map O.frz) := by rw [O.frz, frzL_map]
@[simp] theorem p_frz_obj {C : Nat} {k : List Str} {xs : List O} : (O.obj C k xs).frz = .obj C k (xs.map O.frz) := by rw [O.frz, frzL_map]
@[simp] theorem p_frz_tup {xs : List O} : (O.tup xs).frz = .tup (xs.map O.frz) := by rw [O.frz, frzL_map]
@[simp] theorem p_shal_d {x : D} : (O.d x).shal = .d x := rfl
@[simp] theorem p_shal_lst {x : List O} : (O.lst x).shal = .lst (x.map fun o => .d o.frz) := rfl
@[simp] theorem p_back_val {o p : O} {ρ : Env} : back (.val o) p ρ = ρ := rfl
@[simp] theorem p_back_slot {i : Nat} {p : O} {ρ : Env} : back (.slot i) p ρ = ρ.set i (some p) := rfl
@[simp] theorem p_backL_nil {os : List O} {ρ : Env} : backL [] os ρ = ρ := by cases os <;> rfl
@[simp] theorem p_backL_cons {a : Arg} {as : List Arg} {o : O} {os : List O} {ρ : Env} : backL (a :: as) (o :: os) ρ = backL as os (back a o ρ) := rfl
@[simp] theorem p_truD_bl {b : Bool} : truD (.bl b) = some b := rfl
@[simp] theorem p_boolO_bl {b : Bool} : boolO (.d (.bl b)) = some b := rfl
@[simp] theorem p_okS_int {i j : Int} : okS (.int i) (.int j) = true := rfl
@[simp] theorem p_ixN_zero {n : Nat} {i : Int} : ixN n i = ixN n i := rfl
@[simp] theorem done_rt {o : O} {ρ : Env} {args : List O} : (Res.ok (.rt o) ρ).done args = match iosOf args ρ with
    | some ios => .ok o ios
    | none => .bad := rfl
@[simp] theorem done_nx {ρ : Env} {args : List O} : (Res.ok .nx ρ).done args = match iosOf args ρ with
    | some ios => .ok (.d .non) ios
    | none => .bad := rfl
@[simp] theorem noX_bnd {α β : Type} {o : Option α} {f : α → Res β} : (bnd o f).noX = bnd o fun a => (f a).noX := by cases o <;> rfl
section
variable {i C : Nat} {o : O} {os : List O} {ρ : Env} {ts : List Tg} {t : Tg} {d : D} {ds : List D} {f : Str}
@[simp] theorem q_asgT_nm : asgT (.nm i) d ρ = some (ρ.set i (some (.d d))) := by rw [asgT]
@[simp] theorem q_asgT_tp : asgT (.tp ts) (.tup ds) ρ = asgT.go ts ds ρ := by rw [asgT]
@[simp] theorem q_goT0 : asgT.go [] [] ρ = some ρ := by rw [asgT.go]
@[simp] theorem q_goT1 : asgT.go (t :: ts) (d :: ds) ρ = match asgT t d ρ with
    | some ρ' => asgT.go ts ds ρ'
    | none => none := by first | (rw [asgT.go]; done) | (rw [asgT.go]; rfl)
@[simp] theorem q_asgO_nm : asgO (.nm i) o ρ = some (ρ.set i (some o)) := by rw [asgO]
@[simp] theorem q_asgO_tpD : asgO (.tp ts) (.d (.tup ds)) ρ = asgO.goD ts ds ρ := by rw [asgO]
@[simp] theorem q_asgO_tpO : asgO (.tp ts) (.tup os) ρ = asgO.go ts os ρ := by rw [asgO]
@[simp] theorem q_asgO_fl : asgO (.fl i C f) o ρ = match slotE ρ i with
    | some b => match setF C f o b with
      | some b' => some (ρ.set i (some b'))
      | none => none
    | none => none := by first | (rw [asgO]; done) | (rw [asgO]; rfl)
@[simp] theorem q_goO0 : asgO.go [] [] ρ = some ρ := by rw [asgO.go]
@[simp] theorem q_goO1 : asgO.go (t :: ts) (o :: os) ρ = match asgO t o ρ with
    | some ρ' => asgO.go ts os ρ'
    | none => none := by first | (rw [asgO.go]; done) | (rw [asgO.go]; rfl)
@[simp] theorem q_goD0 : asgO.goD [] [] ρ = some ρ := by rw [asgO.goD]
@[simp] theorem q_goD1 : asgO.goD (t :: ts) (d :: ds) ρ = match asgT t d ρ with
    | some ρ' => asgO.goD ts ds ρ'
    | none => none := by first | (rw [asgO.goD]; done) | (rw [asgO.goD]; rfl)
end
theorem phi_run {l : List (Nat × (List O → FRes))} {n : Nat} {r : List O → FRes} (h : l.lookup n = some r) : (phi l n).run = r := by
  unfold phi
  rw [h]
  rfl
theorem runD_eq {Φ : Phi} {ss : List SS} {n m : Nat} {L : List Nat} {args : List O} (h1 : args.length = n) (h2 : okArgs L 0 args = true) : runD Φ ss n m L args = runF Φ ss m args := by
  unfold runD
  rw [if_pos ⟨h1, h2⟩]
section
variable {i j : Int} {x y z : Str} {xs ys : List D} {u v : D} {os : List O} {o : O} {ks : List D} {b : Bool} {C : Nat} {ns : List Str}
@[simp] theorem q_add : biD .add [u, v] = catD u v := rfl
@[simp] theorem q_cati : catD (.int i) (.int j) = some (.d (.int (i + j))) := rfl
@[simp] theorem q_cats : catD (.str x) (.str y) = if x.length + y.length ≤ sizeLine then some (.d (.str (x ++ y))) else none := rfl
@[simp] theorem q_catl : catD (.lst xs) (.lst ys) = if xs.length + ys.length ≤ sizeLine then some (.lst ((xs ++ ys).map .d)) else none := rfl
@[simp] theorem q_catt : catD (.tup xs) (.tup ys) = if xs.length + ys.length ≤ sizeLine then some (.d (.tup (xs ++ ys))) else none := rfl
@[simp] theorem q_sub : biD .sub [.int i, .int j] = some (.d (.int (i - j))) := rfl
@[simp] theorem q_mul : biD .mul [.int i, .int j] = if (-(2 ^ 64) < i ∧ i < 2 ^ 64) ∨ (-(2 ^ 64) < j ∧ j < 2 ^ 64) then some (.d (.int (i * j))) else none := rfl
@[simp] theorem q_fdiv : biD .fdiv [.int i, .int j] = if 0 < j ∧ j < 1073741824 then some (.d (.int (i / j))) else none := rfl
@[simp] theorem q_mod : biD .mod [.int i, .int j] = if 0 < j then some (.d (.int (i % j))) else none := rfl
@[simp] theorem q_pow : biD .pow [.int i, .int j] = if 0 ≤ j ∧ j ≤ 1000000 ∧ i.natAbs < 2 ^ 64 then some (.d (.int (i ^ j.toNat))) else none := rfl
@[simp] theorem q_neg : unD .neg [.int i] = some (.d (.int (-i))) := rfl
@[simp] theorem q_cmD {k : Cm} : cmD k [u, v] = (cmpD k u v).map fun b => .d (.bl b) := rfl
@[simp] theorem q_eq : cmpD .eq u v = if okS u v then some (D.eqd u v) else none := rfl
@[simp] theorem q_ne : cmpD .ne u v = if okS u v then some (!D.eqd u v) else none := rfl
@[simp] theorem q_lt : cmpD .lt (.int i) (.int j) = some (decide (i < j)) := rfl
@[simp] theorem q_le : cmpD .le (.int i) (.int j) = some (decide (i ≤ j)) := rfl
@[simp] theorem q_gt : cmpD .gt (.int i) (.int j) = some (decide (j < i)) := rfl
@[simp] theorem q_ge : cmpD .ge (.int i) (.int j) = some (decide (j ≤ i)) := rfl
@[simp] theorem q_is_nn : cmpD .is .non .non = some true := rfl
@[simp] theorem q_is_sn : cmpD .is (.str x) .non = some false := rfl
@[simp] theorem q_in : cmpD .isin u v = cmpD.inD u v := rfl
@[simp] theorem q_notin : cmpD .notin u v = (cmpD.inD u v).map (!·) := rfl
@[simp] theorem q_inl : cmpD.inD u (.lst ys) = if D.okd 150 u && D.okdL 150 ys then some (ys.any fun y => D.eqd y u) else none := rfl
@[simp] theorem q_intu : cmpD.inD u (.tup ys) = if D.okd 150 u && D.okdL 150 ys then some (ys.any fun y => D.eqd y u) else inDic u ys := rfl
@[simp] theorem q_inc {c : Nat} : cmpD.inD (.str ⟨#[c]⟩) (.str y) = some (decide (c ∈ y.cps.toList)) := rfl
@[simp] theorem q_xl : idxD [.lst xs, .int i] = (atI xs i).map .d := rfl
@[simp] theorem q_xt : idxD [.tup xs, .int i] = (atI xs i).map .d := rfl
@[simp] theorem q_xs : idxD [.str x, .int i] = if x.length ≤ sizeLine then (atI x.cps.toList i).map fun c => .d (.str ⟨#[c]⟩) else none := rfl
@[simp] theorem q_xd : idxD [.dic ks xs, v] = if kindOk v ks then (lookD v ks xs).map .d else none := rfl
@[simp] theorem q_slc {l h : D} : slcD [u, l, h] = (match partD l, partD h with
    | some lo, some hi => match u with
      | .lst xs => some (.lst ((cutD xs lo hi).map .d))
      | .tup xs => some (.d (.tup (cutD xs lo hi)))
      | .str z => if z.length ≤ sizeLine then some (.d (.str ⟨((z.cps.toList.drop (HT.sIx z.length 0 lo)).take (HT.sIx z.length z.length hi - HT.sIx z.length 0 lo)).toArray⟩)) else none
      | _ => none
    | _, _ => none) := rfl
@[simp] theorem q_fn1 {k : Fn} : fnD k [u] = fn1 k u := rfl
@[simp] theorem q_fn2 {k : Fn} : fnD k [u, v] = fn2 k u v := rfl
@[simp] theorem q_lenl : fn1 .len (.lst xs) = some (.d (.int xs.length)) := rfl
@[simp] theorem q_lent : fn1 .len (.tup xs) = some (.d (.int xs.length)) := rfl
@[simp] theorem q_lens : fn1 .len (.str x) = if x.length ≤ sizeLine then some (.d (.int x.length)) else none := rfl
@[simp] theorem q_lend : fn1 .len (.dic ks xs) = some (.d (.int ks.length)) := rfl
@[simp] theorem q_listl : fn1 .list (.lst xs) = some (.lst (xs.map .d)) := rfl
@[simp] theorem q_listt : fn1 .list (.tup xs) = some (.lst (xs.map .d)) := rfl
@[simp] theorem q_listd : fn1 .list (.dic ks xs) = if ks.all fun k => (keyOf k).isSome then some (.lst (ks.map .d)) else none := rfl
@[simp] theorem q_tupl : fn1 .tuple (.lst xs) = some (.d (.tup xs)) := rfl
@[simp] theorem q_tupt : fn1 .tuple (.tup xs) = some (.d (.tup xs)) := rfl
@[simp] theorem q_int : fn1 .int (.int i) = some (.d (.int i)) := rfl
@[simp] theorem q_all : fn1 .all (.lst xs) = (boolsD xs).map fun bs => .d (.bl (bs.all id)) := rfl
@[simp] theorem q_any : fn1 .any (.lst xs) = (boolsD xs).map fun bs => .d (.bl (bs.any id)) := rfl
@[simp] theorem q_lset : fn1 .lenset (.lst xs) = (match strsD xs with
      | some ys => if ys.length ≤ 4000 then some (.d (.int (met ys).length)) else none
      | none => none) := rfl
@[simp] theorem q_min : fn2 .min2 (.int i) (.int j) = some (.d (.int (if j < i then j else i))) := rfl
@[simp] theorem q_max : fn2 .max2 (.int i) (.int j) = some (.d (.int (if j > i then j else i))) := rfl
@[simp] theorem q_join : mtD .join [.str x, .lst xs] = (match strsD xs with
    | some ys => if (ys.map (·.length)).sum + ys.length * x.length ≤ 16777216 then some (.d (.str (Txt.join x ys))) else none
    | none => none) := rfl
@[simp] theorem q_split : mtD .split [.str x, .str y] = if (y.length == 0) = false ∧ x.length + 2 ≤ sizeLine then some (.lst ((Txt.split x y).map fun x => .d (.str x))) else none := rfl
@[simp] theorem q_append : muO .append (.lst os) [o] = if os.length < sizeLine then some (.d .non, .lst (os ++ [o])) else none := rfl
@[simp] theorem q_extend {ps : List O} : muO .extend (.lst os) [.lst ps] = if os.length + ps.length ≤ sizeLine then some (.d .non, .lst (os ++ ps)) else none := rfl
@[simp] theorem q_pop : muO .pop (.lst os) [] = (match os[os.length - 1]? with
    | some y => some (y, .lst os.dropLast)
    | none => none) := rfl
@[simp] theorem q_popAt : muO .popAt (.lst os) [.d (.int i)] = (match ixN os.length i with
    | some k => match os[k]? with
      | some y => some (y, .lst (os.eraseIdx k))
      | none => none
    | none => none) := rfl
@[simp] theorem q_stepl : stepO (.lst os) (.int i) = (match ixN os.length i with
      | some j => match os[j]? with
        | some y => some (y, fun z : O => O.lst (os.set j z))
        | none => none
      | none => none) := rfl
@[simp] theorem q_stepd : stepO (.dic ks os) v = (if kindOk v ks then (match posD v ks with
      | some j => match os[j]? with
        | some y => some (y, fun z : O => O.dic ks (os.set j z))
        | none => none
      | none => none) else none) := rfl
@[simp] theorem q_stepo {C' : Nat} {f : Str} : stepO (.obj C ns os) (.exc C' [.str f]) = (if C' = C then (match posF f ns with
      | some j => match os[j]? with
        | some y => some (y, fun z : O => O.obj C ns (os.set j z))
        | none => none
      | none => none) else none) := rfl
@[simp] theorem q_setd : setO (.dic ks os) v o = if kindOk v ks && decide (ks.length < sizeLine) then some (.dic (putD v o ks os).1 (putD v o ks os).2) else none := rfl
@[simp] theorem q_setl : setO (.lst os) (.int i) o = (ixN os.length i).map fun j => .lst (os.set j o) := rfl
@[simp] theorem q_ixL {k : D} {p : O} : ixBackL k p (o :: os) = ixBack o k p :: os.map O.shal := rfl
@[simp] theorem q_ix_int {k : D} : ixBack o k (.d (.int i)) = o := rfl
@[simp] theorem q_ix_str {k : D} : ixBack o k (.d (.str x)) = o := rfl
@[simp] theorem q_ix_non {k : D} : ixBack o k (.d .non) = o := rfl
@[simp] theorem q_ix_bl {k : D} : ixBack o k (.d (.bl b)) = o := rfl
theorem ixBack_ns {k : D} (h : scalD u = false) : ixBack o k (.d u) = (match stepO o k with
  | some (y, g) => g (.d y.frz)
  | none => o.shal) := by
  unfold ixBack
  rw [show scalO (.d u) = scalD u from rfl, h]
  rfl
@[simp] theorem q_ix_tup {k : D} : ixBack o k (.d (.tup xs)) = (match stepO o k with
  | some (y, g) => g (.d y.frz)
  | none => o.shal) := ixBack_ns rfl
@[simp] theorem q_ix_lst {k : D} : ixBack o k (.d (.lst xs)) = (match stepO o k with
  | some (y, g) => g (.d y.frz)
  | none => o.shal) := ixBack_ns rfl
@[simp] theorem q_ix_dic {k : D} : ixBack o k (.d (.dic ks xs)) = (match stepO o k with
  | some (y, g) => g (.d y.frz)
  | none => o.shal) := ixBack_ns rfl
@[simp] theorem q_step_d {k : D} : stepO (.d u) k = none := rfl
@[simp] theorem q_fld {C' : Nat} {f : Str} : fldD C f [.obj C' ns xs] = if C' = C then (fieldD f ns xs).map .d else none := rfl
@[simp] theorem q_isal {C : Nat} {cs : List Nat} {ts : List Ty1} : isaD cs ts [.lst xs] = some (.d (.bl (ts.any (isa1 (.lst xs))))) := rfl
@[simp] theorem q_isat {cs : List Nat} {ts : List Ty1} : isaD cs ts [.tup xs] = some (.d (.bl (ts.any (isa1 (.tup xs))))) := rfl
@[simp] theorem q_isas {cs : List Nat} {ts : List Ty1} : isaD cs ts [.str x] = some (.d (.bl (ts.any (isa1 (.str x))))) := rfl
@[simp] theorem q_isan {cs : List Nat} {ts : List Ty1} : isaD cs ts [.non] = some (.d (.bl (ts.any (isa1 .non)))) := rfl
@[simp] theorem q_isai {cs : List Nat} {ts : List Ty1} : isaD cs ts [.int i] = some (.d (.bl (ts.any (isa1 (.int i))))) := rfl
@[simp] theorem q_isao {cs : List Nat} {ts : List Ty1} : isaD cs ts [.obj C ns xs] = if C ∈ cs then some (.d (.bl (ts.any (isa1 (.obj C ns xs))))) else none := rfl
@[simp] theorem q_wl : walkD (.lst xs) = some xs := rfl
@[simp] theorem q_wt : walkD (.tup xs) = some xs := rfl
@[simp] theorem q_ws : walkD (.str x) = if x.length ≤ sizeLine then some (x.cps.toList.map fun c => .str ⟨#[c]⟩) else none := rfl
@[simp] theorem q_objC {C' : Nat} : objC C (.obj C' ns xs) = if C' = C then some () else none := rfl
@[simp] theorem q_objM {C' : Nat} {f : Str} : objM C f (.obj C' ns xs) = if C' = C ∧ f ∉ ns then some () else none := rfl
@[simp] theorem q_setF {C' : Nat} {f : Str} : setF C f o (.obj C' ns os) = if C' = C ∧ ns.length < 1000 then some (.obj C' (putFO f o ns os).1 (putFO f o ns os).2) else none := rfl
@[simp] theorem q_len {n : Int} : lenO (.d (.int n)) = if 0 ≤ n ∧ n < 2 ^ 63 then some (.d (.int n)) else none := rfl
@[simp] theorem q_notO {neg : Bool} : notO neg (.d (.bl b)) = some (.d (.bl (if neg then !b else b))) := rfl
@[simp] theorem q_arrN {as : List Arg} : arr as [] = some [] := rfl
@[simp] theorem q_arrL {as : List Arg} {n : Nat} {r : List (Nat ⊕ D)} : arr as (.inl n :: r) = (match as[n]?, arr as r with
    | some a, some l => some (a :: l)
    | _, _ => none) := rfl
@[simp] theorem q_arrR {as : List Arg} {d : D} {r : List (Nat ⊕ D)} : arr as (.inr d :: r) = (arr as r).map (.val (.d d) :: ·) := rfl
@[simp] theorem q_idg1 : idg 1 = [.inl 0] := rfl
@[simp] theorem q_idg2 : idg 2 = [.inl 0, .inl 1] := rfl
@[simp] theorem q_idg3 : idg 3 = [.inl 0, .inl 1, .inl 2] := rfl
@[simp] theorem q_allN : mkT.allD [] = some [] := rfl
@[simp] theorem q_allD : mkT.allD (.d u :: os) = (mkT.allD os).map (u :: ·) := rfl
@[simp] theorem q_allL {ps : List O} : mkT.allD (.lst ps :: os) = none := rfl
@[simp] theorem q_allC {ps : List O} : mkT.allD (.dic ks ps :: os) = none := rfl
@[simp] theorem q_allO {ps : List O} : mkT.allD (.obj C ns ps :: os) = none := rfl
theorem q_eqd_ii : D.eqd (.int i) (.int j) = (i == j) := by rw [D.eqd]
end
end PV
namespace K01
open PySem PySem.Spec PyProof.Rows L2 PV
def top (i : Nat) : Stmt := PySem.Challenge.pw_lastnumbers_k01_trees_of_shapes.main.body.getD i (.Pass ⟨0, 0, 0, 0⟩)
abbrev st_is_name : Stmt := (top 9)
theorem sc_is_name : FnScope ["value", "sign"] ["value"] (defScope st_is_name) := ⟨rfl, rfl, rfl, by decide +kernel, rfl, by decide +kernel, by decide +kernel⟩
def b_is_name : List SS := [.ite (.bor [.bnot (.isa [20] [.str] (.var 0)), .bnot (.cm2 .le .le (.lit (.int 1)) (.fn .len [.var 0]) (.glo "MOST_LETTERS" (.int 8)))]) [.ret (.lit (.bl false))] [], .ret (.fn .all [.comp .lst (.cm .isin (.var 1) (.glo "LETTERS" (.str "abcdefghijklmnopqrstuvwxyz"))) [1] (.nm 1) (.of (.var 0)) []])]
noncomputable def r_is_name : List O → FRes := runD (phi []) b_is_name 1 2 [0]
theorem w_is_name {P : Program} {w : World} {K : PySem.W.Frag} {mg : Str → Option Value} {base : Heap} {cls : Nat → Addr} {dvs : List V} {kws : List (Str × V)} {f : Addr} {fd : FuncData} (F : FunD K "is_name" "is_name" (defArgs st_is_name) (defBody st_is_name) (defScope st_is_name) dvs kws f fd) (h_isa : IsaT K ⟨K, cls⟩ [20]) (h_b_str : mg "str" = none) (h_b_isinstance : mg "isinstance" = none) (h_b_len : mg "len" = none) (h_c_MOST_LETTERS : ∃ t, mg "MOST_LETTERS" = some (.int 8 t)) (h_c_LETTERS : ∃ t, mg "LETTERS" = some (.str "abcdefghijklmnopqrstuvwxyz" t)) (h_b_all : mg "all" = none) : FnOk P w K mg base (L2.CX P w) 1 f fd ["value"] (spOf ⟨K, cls⟩ r_is_name) :=
  fn_pv F sc_is_name fun cdv A outer s H E B pr hr => by
    have hu : (cxOf (L2.CX P w) P w K mg base ["value", "sign"] "is_name" (defScope st_is_name) f cdv A outer s H E).A.units + 200 < cLine := room_hu hr
    have hu1 : (cxOf (L2.CX P w) P w K mg base ["value", "sign"] "is_name" (defScope st_is_name) f cdv A outer s H E).A.units + 1 < cLine := by omega
    have nd := sc_is_name.nd
    have tk : Takes (cxOf (L2.CX P w) P w K mg base ["value", "sign"] "is_name" (defScope st_is_name) f cdv A outer s H E) (fun cls d _ H => E cls d H) := takes_of rfl rfl rfl rfl
    exact (st_cons (st_if (s_borT (s_orT (s_notT (s_T rfl (s_A (s_isa (t := .str) rfl h_isa rfl rfl h_b_isinstance (s_varA (i := 0) rfl (.inl rfl) rfl rfl) (pe_bltn rfl h_b_str (by decide +kernel) rfl) rfl rfl rfl) rfl) rfl rfl)) (s_orT1 (s_notT (s_cm2T rfl (by exact hu) (k := .le) (j := .le) (s_A (s_C pe_int (by intro _ _; exact rfl)) rfl) (s_A (s_fn (k := .len) rfl rfl rfl rfl rfl h_b_len (s_As1 (s_varA (i := 0) rfl (.inl rfl) rfl rfl) s_As0 rfl) rfl rfl) rfl) (s_A (s_gint rfl h_c_MOST_LETTERS rfl) rfl) (by with_unfolding_all rfl)))))) (st_cons (st_ret (s_C pe_bl (by intro _ _; exact rfl))) st_nil) st_nil) (st_cons (st_ret (s_fn (k := .all) rfl rfl rfl rfl rfl h_b_all (s_As1 (s_A (s_compP pr rfl nd (own := [("sign", 1)]) (se := .cm .isin (.var 1) (.glo "LETTERS" (.str "abcdefghijklmnopqrstuvwxyz"))) (t := .nm 1) (ie := .of (.var 0)) (sifs := []) (by decide) rfl (by decide) (i_of rfl (s_varA (i := 0) rfl (.inl rfl) rfl rfl)) (blkOk_by (N := ["value", "sign"]) (sc := defScope st_is_name) (by decide +kernel)) (fun s H C cl fp => (s_tgN (i := 1) nd rfl (.inl rfl) (.inr rfl) (pr.ne rfl))) (fun s H C cl fp => s_ts0) (fun s H C cl fp => (s_cm rfl (by exact hu) (k := .isin) (s_varA (i := 1) rfl (.inl rfl) rfl rfl) (s_A (s_gstr rfl h_c_LETTERS rfl) rfl) rfl)) (fun _ => rfl)) rfl) s_As0 rfl) rfl rfl)) st_nil))
abbrev st_l_begun : Stmt := (top 14)
theorem sc_l_begun : FnScope ["_law_script", "_law_large", "_law_cell"] ["_law_script"] (defScope st_l_begun) := ⟨rfl, rfl, rfl, by decide +kernel, rfl, by decide +kernel, by decide +kernel⟩
def b_l_begun : List SS := [.asg (.nm 1) (.comp .lst (.bi .sub (.var 2) (.bi .pow (.lit (.int 10)) (.lit (.int 18)))) [2] (.nm 2) (.of (.var 0)) [.cm .ge (.var 2) (.bi .pow (.lit (.int 10)) (.lit (.int 18)))]), .ret (.dct (flatS [(.lit (.str "large"), .mv 1), (.lit (.str "cells"), .frz (.fn .list [.var 0])), (.lit (.str "rest"), .lit (.int 0)), (.lit (.str "turn"), .lit (.int 0))]))]
noncomputable def r_l_begun : List O → FRes := runD (phi []) b_l_begun 1 3 [0]
theorem w_l_begun {P : Program} {w : World} {K : PySem.W.Frag} {mg : Str → Option Value} {base : Heap} {cls : Nat → Addr} {dvs : List V} {kws : List (Str × V)} {f : Addr} {fd : FuncData} (F : FunD K "_law_begun" "_law_begun" (defArgs st_l_begun) (defBody st_l_begun) (defScope st_l_begun) dvs kws f fd) (h_b_list : mg "list" = none) : FnOk P w K mg base (L2.CX P w) 1 f fd ["_law_script"] (spOf ⟨K, cls⟩ r_l_begun) :=
  fn_pv F sc_l_begun fun cdv A outer s H E B pr hr => by
    have hu : (cxOf (L2.CX P w) P w K mg base ["_law_script", "_law_large", "_law_cell"] "_law_begun" (defScope st_l_begun) f cdv A outer s H E).A.units + 200 < cLine := room_hu hr
    have hu1 : (cxOf (L2.CX P w) P w K mg base ["_law_script", "_law_large", "_law_cell"] "_law_begun" (defScope st_l_begun) f cdv A outer s H E).A.units + 1 < cLine := by omega
    have nd := sc_l_begun.nd
    have tk : Takes (cxOf (L2.CX P w) P w K mg base ["_law_script", "_law_large", "_law_cell"] "_law_begun" (defScope st_l_begun) f cdv A outer s H E) (fun cls d _ H => E cls d H) := takes_of rfl rfl rfl rfl
    exact (st_cons (st_asgLcP pr (i := 1) (own := [("_law_cell", 2)]) (se := .bi .sub (.var 2) (.bi .pow (.lit (.int 10)) (.lit (.int 18)))) (t := .nm 2) (ie := .of (.var 0)) (sifs := [.cm .ge (.var 2) (.bi .pow (.lit (.int 10)) (.lit (.int 18)))]) rfl nd rfl rfl rfl (sw_true rfl rfl rfl (by decide +kernel)) (by decide) rfl (by decide) (i_of rfl (s_varA (i := 0) rfl (.inl rfl) rfl rfl)) (blkOk_by (N := ["_law_script", "_law_large", "_law_cell"]) (sc := defScope st_l_begun) (by decide +kernel)) (fun s H C cl fp => (s_tgN (i := 2) nd rfl (.inl rfl) (.inr rfl) (pr.ne rfl))) (fun s H C cl fp => (s_ts1 (s_cmT rfl (by exact hu) (k := .ge) (s_varA (i := 2) rfl (.inl rfl) rfl rfl) (s_A (s_bi rfl (k := .pow) (s_A (s_C pe_int (by intro _ _; exact rfl)) rfl) (s_A (s_C pe_int (by intro _ _; exact rfl)) rfl)) rfl) rfl))) (fun s H C cl fp => (s_bi rfl (k := .sub) (s_varA (i := 2) rfl (.inl rfl) rfl rfl) (s_A (s_bi rfl (k := .pow) (s_A (s_C pe_int (by intro _ _; exact rfl)) rfl) (s_A (s_C pe_int (by intro _ _; exact rfl)) rfl)) rfl))) (fun _ => rfl)) (st_cons (st_ret (s_dct (kvs := [(.lit (.str "large"), .mv 1), (.lit (.str "cells"), .frz (.fn .list [.var 0])), (.lit (.str "rest"), .lit (.int 0)), (.lit (.str "turn"), .lit (.int 0))]) (fun B e => by have pr := PrIn.eq pr e; exact (pps_cons (s_C pe_str (by intro _ _; exact rfl)) (s_mv (i := 1) rfl (.inl rfl) rfl rfl) (pps_cons (s_C pe_str (by intro _ _; exact rfl)) (s_frz (s_fn (k := .list) rfl rfl rfl rfl rfl h_b_list (s_As1 (s_varA (i := 0) rfl (.inl rfl) rfl rfl) s_As0 rfl) rfl rfl)) (pps_cons (s_C pe_str (by intro _ _; exact rfl)) (s_C pe_int (by intro _ _; exact rfl)) (pps_cons (s_C pe_str (by intro _ _; exact rfl)) (s_C pe_int (by intro _ _; exact rfl)) pps_nil))))) rfl rfl (by simp) (by decide))) st_nil))
abbrev st_l_mixed : Stmt := (top 15)
theorem sc_l_mixed : FnScope ["_law_state", "_law_found", "_law_prime", "_law_blend", "_law_cell"] ["_law_state"] (defScope st_l_mixed) := ⟨rfl, rfl, rfl, by decide +kernel, rfl, by decide +kernel, by decide +kernel⟩
def b_l_mixed : List SS := [.sub 0 [.lit (.str "turn")] (.bi .add (.idx (.var 0) (.lit (.str "turn"))) (.lit (.int 1))), .asg (.nm 1) (.lit (.int 0)), .for (.nm 2) (.of (.lst [.lit (.int 2147483629), .lit (.int 2147483587), .lit (.int 2147483579), .lit (.int 2147483563), .lit (.int 2147483549), .lit (.int 2147483543)])) [.asg (.nm 3) (.bi .add (.bi .mul (.lit (.int 104729)) (.idx (.var 0) (.lit (.str "turn")))) (.bi .fdiv (.var 2) (.lit (.int 7)))), .for (.nm 4) (.of (.idx (.var 0) (.lit (.str "cells")))) [.asg (.nm 3) (.bi .mod (.fn .int [.bi .add (.bi .mul (.var 3) (.lit (.int 48271))) (.var 4)]) (.var 2))], .asg (.nm 1) (.bi .add (.bi .mul (.var 1) (.lit (.int 2147483647))) (.bi .mod (.fn .int [.bi .pow (.var 3) (.lit (.int 5))]) (.var 2)))], .ret (.mv 1)]
noncomputable def r_l_mixed : List O → FRes := runD (phi []) b_l_mixed 1 5 [0]
theorem w_l_mixed {P : Program} {w : World} {K : PySem.W.Frag} {mg : Str → Option Value} {base : Heap} {cls : Nat → Addr} {dvs : List V} {kws : List (Str × V)} {f : Addr} {fd : FuncData} (F : FunD K "_law_mixed" "_law_mixed" (defArgs st_l_mixed) (defBody st_l_mixed) (defScope st_l_mixed) dvs kws f fd) (h_b_int : mg "int" = none) : FnOk P w K mg base (L2.CX P w) 1 f fd ["_law_state"] (spOf ⟨K, cls⟩ r_l_mixed) :=
  fn_pv F sc_l_mixed fun cdv A outer s H E B pr hr => by
    have hu : (cxOf (L2.CX P w) P w K mg base ["_law_state", "_law_found", "_law_prime", "_law_blend", "_law_cell"] "_law_mixed" (defScope st_l_mixed) f cdv A outer s H E).A.units + 200 < cLine := room_hu hr
    have hu1 : (cxOf (L2.CX P w) P w K mg base ["_law_state", "_law_found", "_law_prime", "_law_blend", "_law_cell"] "_law_mixed" (defScope st_l_mixed) f cdv A outer s H E).A.units + 1 < cLine := by omega
    have nd := sc_l_mixed.nd
    have tk : Takes (cxOf (L2.CX P w) P w K mg base ["_law_state", "_law_found", "_law_prime", "_law_blend", "_law_cell"] "_law_mixed" (defScope st_l_mixed) f cdv A outer s H E) (fun cls d _ H => E cls d H) := takes_of rfl rfl rfl rfl
    exact (st_cons (st_sub rfl (by exact hu1) (s_bi rfl (k := .add) (s_A (s_idx rfl (by exact hu) (s_varA (i := 0) rfl (.inl rfl) rfl rfl) (s_A (s_C pe_str (by intro _ _; exact rfl)) rfl) (fun _ _ => rfl)) rfl) (s_A (s_C pe_int (by intro _ _; exact rfl)) rfl)) (s_rc0 rfl (.inl rfl) rfl rfl) (fun B e => by have pr := PrIn.eq pr e; exact (s_C pe_str (by intro _ _; exact rfl))) rfl rfl rfl (fun _ => rfl)) (st_cons (st_asg (s_C pe_int (by intro _ _; exact rfl)) (o_tgN (i := 1) nd rfl (.inl rfl) (.inl rfl) (pr.ne rfl)) rfl rfl rfl) (st_cons (st_forP pr (passes_of rfl) rfl (i_of rfl (s_A (s_lst (hz_of (by decide)) (s_L1 (s_C pe_int (by intro _ _; exact rfl)) (s_L1 (s_C pe_int (by intro _ _; exact rfl)) (s_L1 (s_C pe_int (by intro _ _; exact rfl)) (s_L1 (s_C pe_int (by intro _ _; exact rfl)) (s_L1 (s_C pe_int (by intro _ _; exact rfl)) (s_L1 (s_C pe_int (by intro _ _; exact rfl)) s_L0 rfl) rfl) rfl) rfl) rfl) rfl)) rfl)) (fun B pr => (s_tgN (i := 2) nd rfl (.inl rfl) (.inl rfl) (pr.ne rfl))) (fun B pr => (st_cons (st_asg (s_bi rfl (k := .add) (s_A (s_bi rfl (k := .mul) (s_A (s_C pe_int (by intro _ _; exact rfl)) rfl) (s_A (s_idx rfl (by exact hu) (s_varA (i := 0) rfl (.inl rfl) rfl rfl) (s_A (s_C pe_str (by intro _ _; exact rfl)) rfl) (fun _ _ => rfl)) rfl)) rfl) (s_A (s_bi rfl (k := .fdiv) (s_varA (i := 2) rfl (.inl rfl) rfl rfl) (s_A (s_C pe_int (by intro _ _; exact rfl)) rfl)) rfl)) (o_tgN (i := 3) nd rfl (.inl rfl) (.inl rfl) (pr.ne rfl)) rfl rfl rfl) (st_cons (st_forP pr (passes_of rfl) rfl (i_of rfl (s_A (s_idx rfl (by exact hu) (s_varA (i := 0) rfl (.inl rfl) rfl rfl) (s_A (s_C pe_str (by intro _ _; exact rfl)) rfl) (fun _ _ => rfl)) rfl)) (fun B pr => (s_tgN (i := 4) nd rfl (.inl rfl) (.inl rfl) (pr.ne rfl))) (fun B pr => (st_cons (st_asg (s_bi rfl (k := .mod) (s_A (s_fn (k := .int) rfl rfl rfl rfl rfl h_b_int (s_As1 (s_A (s_bi rfl (k := .add) (s_A (s_bi rfl (k := .mul) (s_varA (i := 3) rfl (.inl rfl) rfl rfl) (s_A (s_C pe_int (by intro _ _; exact rfl)) rfl)) rfl) (s_varA (i := 4) rfl (.inl rfl) rfl rfl)) rfl) s_As0 rfl) rfl rfl) rfl) (s_varA (i := 2) rfl (.inl rfl) rfl rfl)) (o_tgN (i := 3) nd rfl (.inl rfl) (.inl rfl) (pr.ne rfl)) rfl rfl rfl) st_nil)) (fun _ => rfl)) (st_cons (st_asg (s_bi rfl (k := .add) (s_A (s_bi rfl (k := .mul) (s_varA (i := 1) rfl (.inl rfl) rfl rfl) (s_A (s_C pe_int (by intro _ _; exact rfl)) rfl)) rfl) (s_A (s_bi rfl (k := .mod) (s_A (s_fn (k := .int) rfl rfl rfl rfl rfl h_b_int (s_As1 (s_A (s_bi rfl (k := .pow) (s_varA (i := 3) rfl (.inl rfl) rfl rfl) (s_A (s_C pe_int (by intro _ _; exact rfl)) rfl)) rfl) s_As0 rfl) rfl rfl) rfl) (s_varA (i := 2) rfl (.inl rfl) rfl rfl)) rfl)) (o_tgN (i := 1) nd rfl (.inl rfl) (.inl rfl) (pr.ne rfl)) rfl rfl rfl) st_nil)))) (fun _ => rfl)) (st_cons (st_ret (s_mv (i := 1) rfl (.inl rfl) rfl rfl)) st_nil))))
abbrev st_l_take : Stmt := (top 16)
theorem sc_l_take : FnScope ["_law_state", "_law_size", "_law_found"] ["_law_state", "_law_size"] (defScope st_l_take) := ⟨rfl, rfl, rfl, by decide +kernel, rfl, by decide +kernel, by decide +kernel⟩
def b_l_take : List SS := [.ite (.cm .eq (.idx (.var 0) (.lit (.str "rest"))) (.lit (.int 0))) [.sub 0 [.lit (.str "rest")] (.ite (.pkcm .ne 0 [.lit (.str "large")] (.lst [])) (.mu .popAt 0 [.lit (.str "large")] [.lit (.int 0)]) (.call 21 [.var 0]))] [], .asg (.nm 2) (.bi .mod (.fn .int [.idx (.var 0) (.lit (.str "rest"))]) (.var 1)), .sub 0 [.lit (.str "rest")] (.bi .fdiv (.idx (.var 0) (.lit (.str "rest"))) (.var 1)), .ret (.mv 2)]
noncomputable def r_l_take : List O → FRes := runD (phi [(21, r_l_mixed)]) b_l_take 2 3 [0, 1]
theorem w_l_take {P : Program} {w : World} {K : PySem.W.Frag} {mg : Str → Option Value} {base : Heap} {cls : Nat → Addr} {dvs : List V} {kws : List (Str × V)} {f : Addr} {fd : FuncData} (F : FunD K "_law_take" "_law_take" (defArgs st_l_take) (defBody st_l_take) (defScope st_l_take) dvs kws f fd) (h_d__law_mixed : Callee P w K mg base ⟨K, cls⟩ "_law_mixed" ["_law_state"] 1 r_l_mixed) (h_b_int : mg "int" = none) : FnOk P w K mg base (L2.CX P w) 2 f fd ["_law_state", "_law_size"] (spOf ⟨K, cls⟩ r_l_take) :=
  fn_pv F sc_l_take fun cdv A outer s H E B pr hr => by
    have hu : (cxOf (L2.CX P w) P w K mg base ["_law_state", "_law_size", "_law_found"] "_law_take" (defScope st_l_take) f cdv A outer s H E).A.units + 200 < cLine := room_hu hr
    have hu1 : (cxOf (L2.CX P w) P w K mg base ["_law_state", "_law_size", "_law_found"] "_law_take" (defScope st_l_take) f cdv A outer s H E).A.units + 1 < cLine := by omega
    have nd := sc_l_take.nd
    have tk : Takes (cxOf (L2.CX P w) P w K mg base ["_law_state", "_law_size", "_law_found"] "_law_take" (defScope st_l_take) f cdv A outer s H E) (fun cls d _ H => E cls d H) := takes_of rfl rfl rfl rfl
    exact (st_cons (st_if (s_cmT rfl (by exact hu) (k := .eq) (s_A (s_idx rfl (by exact hu) (s_varA (i := 0) rfl (.inl rfl) rfl rfl) (s_A (s_C pe_str (by intro _ _; exact rfl)) rfl) (fun _ _ => rfl)) rfl) (s_A (s_C pe_int (by intro _ _; exact rfl)) rfl) rfl) (st_cons (st_sub rfl (by exact hu1) (s_ite (s_ct b_pkcm (s_pkcm (k := .ne) rfl (by exact hu) (s_rc1 (by exact hu) (s_rc0 rfl (.inl rfl) rfl rfl) (fun B e => by have pr := PrIn.eq pr e; exact (s_C pe_str (by intro _ _; exact rfl))) (fun _ _ => rfl)) (fun B e => by have pr := PrIn.eq pr e; exact (s_lst (hz_of (by decide)) s_L0))) rfl) (s_mu rfl PySem.F.slot_list_pop PySem.F.type_list_pop m_popAt (s_rc1 (by exact hu) (s_rc0 rfl (.inl rfl) rfl rfl) (fun B e => by have pr := PrIn.eq pr e; exact (s_C pe_str (by intro _ _; exact rfl))) (fun _ _ => rfl)) (fun B e => by have pr := PrIn.eq pr e; exact (s_L1 (s_C pe_int (by intro _ _; exact rfl)) s_L0 rfl)) rfl rfl rfl rfl rfl) (s_callC h_d__law_mixed rfl (by exact hr) (by first | exact Nat.le_refl _ | omega) rfl tk (s_As1 (s_varA (i := 0) rfl (.inl rfl) rfl rfl) s_As0 rfl) rfl rfl rfl)) (s_rc0 rfl (.inl rfl) rfl rfl) (fun B e => by have pr := PrIn.eq pr e; exact (s_C pe_str (by intro _ _; exact rfl))) rfl rfl rfl (fun _ => rfl)) st_nil) st_nil) (st_cons (st_asg (s_bi rfl (k := .mod) (s_A (s_fn (k := .int) rfl rfl rfl rfl rfl h_b_int (s_As1 (s_A (s_idx rfl (by exact hu) (s_varA (i := 0) rfl (.inl rfl) rfl rfl) (s_A (s_C pe_str (by intro _ _; exact rfl)) rfl) (fun _ _ => rfl)) rfl) s_As0 rfl) rfl rfl) rfl) (s_varA (i := 1) rfl (.inl rfl) rfl rfl)) (o_tgN (i := 2) nd rfl (.inl rfl) (.inl rfl) (pr.ne rfl)) rfl rfl rfl) (st_cons (st_sub rfl (by exact hu1) (s_bi rfl (k := .fdiv) (s_A (s_idx rfl (by exact hu) (s_varA (i := 0) rfl (.inl rfl) rfl rfl) (s_A (s_C pe_str (by intro _ _; exact rfl)) rfl) (fun _ _ => rfl)) rfl) (s_varA (i := 1) rfl (.inl rfl) rfl rfl)) (s_rc0 rfl (.inl rfl) rfl rfl) (fun B e => by have pr := PrIn.eq pr e; exact (s_C pe_str (by intro _ _; exact rfl))) rfl rfl rfl (fun _ => rfl)) (st_cons (st_ret (s_mv (i := 2) rfl (.inl rfl) rfl rfl)) st_nil))))
abbrev st_l_pick : Stmt := (top 17)
theorem sc_l_pick : FnScope ["_law_state", "_law_some"] ["_law_state", "_law_some"] (defScope st_l_pick) := ⟨rfl, rfl, rfl, by decide +kernel, rfl, by decide +kernel, by decide +kernel⟩
def b_l_pick : List SS := [.ret (.idx (.var 1) (.call 22 [.var 0, .fn .len [.var 1]]))]
noncomputable def r_l_pick : List O → FRes := runD (phi [(22, r_l_take)]) b_l_pick 2 2 [0, 1]
theorem w_l_pick {P : Program} {w : World} {K : PySem.W.Frag} {mg : Str → Option Value} {base : Heap} {cls : Nat → Addr} {dvs : List V} {kws : List (Str × V)} {f : Addr} {fd : FuncData} (F : FunD K "_law_pick" "_law_pick" (defArgs st_l_pick) (defBody st_l_pick) (defScope st_l_pick) dvs kws f fd) (h_d__law_take : Callee P w K mg base ⟨K, cls⟩ "_law_take" ["_law_state", "_law_size"] 2 r_l_take) (h_b_len : mg "len" = none) : FnOk P w K mg base (L2.CX P w) 3 f fd ["_law_state", "_law_some"] (spOf ⟨K, cls⟩ r_l_pick) :=
  fn_pv F sc_l_pick fun cdv A outer s H E B pr hr => by
    have hu : (cxOf (L2.CX P w) P w K mg base ["_law_state", "_law_some"] "_law_pick" (defScope st_l_pick) f cdv A outer s H E).A.units + 200 < cLine := room_hu hr
    have hu1 : (cxOf (L2.CX P w) P w K mg base ["_law_state", "_law_some"] "_law_pick" (defScope st_l_pick) f cdv A outer s H E).A.units + 1 < cLine := by omega
    have nd := sc_l_pick.nd
    have tk : Takes (cxOf (L2.CX P w) P w K mg base ["_law_state", "_law_some"] "_law_pick" (defScope st_l_pick) f cdv A outer s H E) (fun cls d _ H => E cls d H) := takes_of rfl rfl rfl rfl
    exact (st_cons (st_ret (s_idx rfl (by exact hu) (s_varA (i := 1) rfl (.inl rfl) rfl rfl) (s_A (s_callC h_d__law_take rfl (by exact hr) (by first | exact Nat.le_refl _ | omega) rfl tk (s_As1 (s_varA (i := 0) rfl (.inl rfl) rfl rfl) (s_As1 (s_A (s_fn (k := .len) rfl rfl rfl rfl rfl h_b_len (s_As1 (s_varA (i := 1) rfl (.inl rfl) rfl rfl) s_As0 rfl) rfl rfl) rfl) s_As0 rfl) rfl) rfl rfl rfl) rfl) (fun _ _ => rfl))) st_nil)
abbrev st_l_name : Stmt := (top 18)
theorem sc_l_name : FnScope ["_law_state", "_law_words", "_law_way", "_law_letters", "_law_k"] ["_law_state"] (defScope st_l_name) := ⟨rfl, rfl, rfl, by decide +kernel, rfl, by decide +kernel, by decide +kernel⟩
def b_l_name : List SS := [.asg (.nm 1) (.lit (.str "tree drop undo lasting ring room range periods fewest trees none ok no row")), .asg (.nm 1) (.mt .split (.bi .add (.var 1) (.lit (.str " more refused enough top end pair a b c"))) [.lit (.str " ")]), .asg (.nm 2) (.call 22 [.var 0, .lit (.int 40)]), .ite (.cm .lt (.var 2) (.fn .len [.var 1])) [.ret (.idx (.var 1) (.var 2))] [], .asg (.nm 3) (.lit (.str "abcdefghijklmnopqrstuvwxyz")), .ret (.mt .join (.lit (.str "")) [.comp .lst (.idx (.var 3) (.call 22 [.var 0, .lit (.int 26)])) [4] (.nm 4) (.range [.bi .add (.lit (.int 1)) (.call 22 [.var 0, .lit (.int 8)])]) []])]
noncomputable def r_l_name : List O → FRes := runD (phi [(22, r_l_take)]) b_l_name 1 5 [0]
theorem w_l_name {P : Program} {w : World} {K : PySem.W.Frag} {mg : Str → Option Value} {base : Heap} {cls : Nat → Addr} {dvs : List V} {kws : List (Str × V)} {f : Addr} {fd : FuncData} (F : FunD K "_law_name" "_law_name" (defArgs st_l_name) (defBody st_l_name) (defScope st_l_name) dvs kws f fd) (h_d__law_take : Callee P w K mg base ⟨K, cls⟩ "_law_take" ["_law_state", "_law_size"] 2 r_l_take) (h_b_len : mg "len" = none) (h_b_range : mg "range" = none) : FnOk P w K mg base (L2.CX P w) 3 f fd ["_law_state"] (spOf ⟨K, cls⟩ r_l_name) :=
  fn_pv F sc_l_name fun cdv A outer s H E B pr hr => by
    have hu : (cxOf (L2.CX P w) P w K mg base ["_law_state", "_law_words", "_law_way", "_law_letters", "_law_k"] "_law_name" (defScope st_l_name) f cdv A outer s H E).A.units + 200 < cLine := room_hu hr
    have hu1 : (cxOf (L2.CX P w) P w K mg base ["_law_state", "_law_words", "_law_way", "_law_letters", "_law_k"] "_law_name" (defScope st_l_name) f cdv A outer s H E).A.units + 1 < cLine := by omega
    have nd := sc_l_name.nd
    have tk : Takes (cxOf (L2.CX P w) P w K mg base ["_law_state", "_law_words", "_law_way", "_law_letters", "_law_k"] "_law_name" (defScope st_l_name) f cdv A outer s H E) (fun cls d _ H => E cls d H) := takes_of rfl rfl rfl rfl
    exact (st_cons (st_asg (s_C pe_str (by intro _ _; exact rfl)) (o_tgN (i := 1) nd rfl (.inl rfl) (.inl rfl) (pr.ne rfl)) rfl rfl rfl) (st_cons (st_asg (s_mt (k := .split) PySem.F.plainAttrs_str PySem.F.slot_str_split PySem.F.type_str_split (m_split rfl) (fun d o v H m e1 e2 s => strTy .split (.inr rfl) e1 e2 s) (s_A (s_bi rfl (k := .add) (s_varA (i := 1) rfl (.inl rfl) rfl rfl) (s_A (s_C pe_str (by intro _ _; exact rfl)) rfl)) rfl) (s_As1 (s_A (s_C pe_str (by intro _ _; exact rfl)) rfl) s_As0 rfl) rfl rfl rfl rfl rfl) (o_tgN (i := 1) nd rfl (.inl rfl) (.inl rfl) (pr.ne rfl)) rfl rfl rfl) (st_cons (st_asg (s_callC h_d__law_take rfl (by exact hr) (by first | exact Nat.le_refl _ | omega) rfl tk (s_As1 (s_varA (i := 0) rfl (.inr (.inl rfl)) rfl rfl) (s_As1 (s_A (s_C pe_int (by intro _ _; exact rfl)) rfl) s_As0 rfl) rfl) rfl rfl rfl) (o_tgN (i := 2) nd rfl (.inl rfl) (.inl rfl) (pr.ne rfl)) rfl rfl rfl) (st_cons (st_if (s_cmT rfl (by exact hu) (k := .lt) (s_varA (i := 2) rfl (.inl rfl) rfl rfl) (s_A (s_fn (k := .len) rfl rfl rfl rfl rfl h_b_len (s_As1 (s_varA (i := 1) rfl (.inl rfl) rfl rfl) s_As0 rfl) rfl rfl) rfl) rfl) (st_cons (st_ret (s_idx rfl (by exact hu) (s_varA (i := 1) rfl (.inl rfl) rfl rfl) (s_varA (i := 2) rfl (.inl rfl) rfl rfl) (fun _ _ => rfl))) st_nil) st_nil) (st_cons (st_asg (s_C pe_str (by intro _ _; exact rfl)) (o_tgN (i := 3) nd rfl (.inr rfl) (.inl rfl) (pr.ne rfl)) rfl rfl rfl) (st_cons (st_ret (s_mt (k := .join) PySem.F.plainAttrs_str PySem.F.slot_str_join PySem.F.type_str_join (m_join rfl) (fun d o v H m e1 e2 s => strTy .join (.inl rfl) e1 e2 s) (s_A (s_C pe_str (by intro _ _; exact rfl)) rfl) (s_As1 (s_A (s_compP pr rfl nd (own := [("_law_k", 4)]) (se := .idx (.var 3) (.call 22 [.var 0, .lit (.int 26)])) (t := .nm 4) (ie := .range [.bi .add (.lit (.int 1)) (.call 22 [.var 0, .lit (.int 8)])]) (sifs := []) (by decide) rfl (by decide) (i_range1 rfl h_b_range (s_L1 (s_bi rfl (k := .add) (s_A (s_C pe_int (by intro _ _; exact rfl)) rfl) (s_A (s_callC h_d__law_take rfl (by exact hr) (by first | exact Nat.le_refl _ | omega) rfl tk (s_As1 (s_varA (i := 0) rfl (.inr (.inl rfl)) rfl rfl) (s_As1 (s_A (s_C pe_int (by intro _ _; exact rfl)) rfl) s_As0 rfl) rfl) rfl rfl rfl) rfl)) s_L0 rfl) rfl) (blkOk_by (N := ["_law_state", "_law_words", "_law_way", "_law_letters", "_law_k"]) (sc := defScope st_l_name) (by decide +kernel)) (fun s H C cl fp => (s_tgN (i := 4) nd rfl (.inl rfl) (.inr rfl) (pr.ne rfl))) (fun s H C cl fp => s_ts0) (fun s H C cl fp => (s_idx rfl (by exact hu) (s_varA (i := 3) rfl (.inr (.inl rfl)) rfl rfl) (s_A (s_callC h_d__law_take rfl (by exact hr) (by first | exact Nat.le_refl _ | omega) rfl takesF (s_As1 (s_varA (i := 0) rfl (.inr (.inl rfl)) rfl rfl) (s_As1 (s_A (s_C pe_int (by intro _ _; exact rfl)) rfl) s_As0 rfl) rfl) rfl rfl rfl) rfl) (fun _ _ => rfl))) (fun _ => rfl)) rfl) s_As0 rfl) rfl rfl rfl rfl rfl)) st_nil))))))
abbrev st_l_names : Stmt := (top 19)
theorem sc_l_names : FnScope ["_law_state", "_law_many", "_law_found", "_law_spare", "_law_k", "_law_name_here", "_law_sign", "_law_one"] ["_law_state", "_law_many"] (defScope st_l_names) := ⟨rfl, rfl, rfl, by decide +kernel, rfl, by decide +kernel, by decide +kernel⟩
def b_l_names : List SS := [.asg (.tp [.nm 2, .nm 3]) (.tup [.lst [], .comp .lst (.bi .add (.lit (.str "z")) (.var 6)) [6] (.nm 6) (.of (.lit (.str "abcdefghijklmnopqrstuvwxyz"))) []]), .for (.nm 4) (.range [.var 1]) [.asg (.nm 5) (.call 24 [.var 0]), .ite (.cm .isin (.var 5) (.var 2)) [.asg (.nm 5) (.idx (.comp .lst (.var 7) [7] (.nm 7) (.of (.var 3)) [.cm .notin (.var 7) (.var 2)]) (.lit (.int 0)))] [], .exp (.mu .append 2 [] [.var 5])], .ret (.mv 2)]
noncomputable def r_l_names : List O → FRes := runD (phi [(24, r_l_name)]) b_l_names 2 8 [0, 1]
theorem w_l_names {P : Program} {w : World} {K : PySem.W.Frag} {mg : Str → Option Value} {base : Heap} {cls : Nat → Addr} {dvs : List V} {kws : List (Str × V)} {f : Addr} {fd : FuncData} (F : FunD K "_law_names" "_law_names" (defArgs st_l_names) (defBody st_l_names) (defScope st_l_names) dvs kws f fd) (h_b_range : mg "range" = none) (h_d__law_name : Callee P w K mg base ⟨K, cls⟩ "_law_name" ["_law_state"] 3 r_l_name) : FnOk P w K mg base (L2.CX P w) 4 f fd ["_law_state", "_law_many"] (spOf ⟨K, cls⟩ r_l_names) :=
  fn_pv F sc_l_names fun cdv A outer s H E B pr hr => by
    have hu : (cxOf (L2.CX P w) P w K mg base ["_law_state", "_law_many", "_law_found", "_law_spare", "_law_k", "_law_name_here", "_law_sign", "_law_one"] "_law_names" (defScope st_l_names) f cdv A outer s H E).A.units + 200 < cLine := room_hu hr
    have hu1 : (cxOf (L2.CX P w) P w K mg base ["_law_state", "_law_many", "_law_found", "_law_spare", "_law_k", "_law_name_here", "_law_sign", "_law_one"] "_law_names" (defScope st_l_names) f cdv A outer s H E).A.units + 1 < cLine := by omega
    have nd := sc_l_names.nd
    have tk : Takes (cxOf (L2.CX P w) P w K mg base ["_law_state", "_law_many", "_law_found", "_law_spare", "_law_k", "_law_name_here", "_law_sign", "_law_one"] "_law_names" (defScope st_l_names) f cdv A outer s H E) (fun cls d _ H => E cls d H) := takes_of rfl rfl rfl rfl
    exact (st_cons (st_asg (s_tup (hz_of (by decide)) (s_L1 (s_lst (hz_of (by decide)) s_L0) (s_L1 (s_compP pr rfl nd (own := [("_law_sign", 6)]) (se := .bi .add (.lit (.str "z")) (.var 6)) (t := .nm 6) (ie := .of (.lit (.str "abcdefghijklmnopqrstuvwxyz"))) (sifs := []) (by decide) rfl (by decide) (i_of rfl (s_A (s_C pe_str (by intro _ _; exact rfl)) rfl)) (blkOk_by (N := ["_law_state", "_law_many", "_law_found", "_law_spare", "_law_k", "_law_name_here", "_law_sign", "_law_one"]) (sc := defScope st_l_names) (by decide +kernel)) (fun s H C cl fp => (s_tgN (i := 6) nd rfl (.inl rfl) (.inr rfl) (pr.ne rfl))) (fun s H C cl fp => s_ts0) (fun s H C cl fp => (s_bi rfl (k := .add) (s_A (s_C pe_str (by intro _ _; exact rfl)) rfl) (s_varA (i := 6) rfl (.inl rfl) rfl rfl))) (fun _ => rfl)) s_L0 rfl) rfl)) (o_tgT rfl rfl (o_tgs1 (o_tgN (i := 2) nd rfl (.inr rfl) (.inl rfl) (pr.ne rfl)) (o_tgs1 (o_tgN (i := 3) nd rfl (.inl rfl) (.inl rfl) (pr.ne rfl)) o_tgs0 rfl) rfl) (s_tgs1 (s_tgN (i := 2) nd rfl (.inr rfl) (.inl rfl) (pr.ne rfl)) (s_tgs1 (s_tgN (i := 3) nd rfl (.inl rfl) (.inl rfl) (pr.ne rfl)) s_tgs0 rfl) rfl) rfl rfl) rfl rfl rfl) (st_cons (st_forP pr (passes_of rfl) rfl (i_range1 rfl h_b_range (s_L1 (s_var (i := 1) rfl (.inl rfl) rfl rfl) s_L0 rfl) rfl) (fun B pr => (s_tgN (i := 4) nd rfl (.inl rfl) (.inl rfl) (pr.ne rfl))) (fun B pr => (st_cons (st_asg (s_callC h_d__law_name rfl (by exact hr) (by first | exact Nat.le_refl _ | omega) rfl tk (s_As1 (s_varA (i := 0) rfl (.inl rfl) rfl rfl) s_As0 rfl) rfl rfl rfl) (o_tgN (i := 5) nd rfl (.inl rfl) (.inl rfl) (pr.ne rfl)) rfl rfl rfl) (st_cons (st_if (s_cmT rfl (by exact hu) (k := .isin) (s_varA (i := 5) rfl (.inl rfl) rfl rfl) (s_varA (i := 2) rfl (.inr (.inl rfl)) rfl rfl) rfl) (st_cons (st_asg (s_idx rfl (by exact hu) (s_A (s_compP pr rfl nd (own := [("_law_one", 7)]) (se := .var 7) (t := .nm 7) (ie := .of (.var 3)) (sifs := [.cm .notin (.var 7) (.var 2)]) (by decide) rfl (by decide) (i_of rfl (s_varA (i := 3) rfl (.inl rfl) rfl rfl)) (blkOk_by (N := ["_law_state", "_law_many", "_law_found", "_law_spare", "_law_k", "_law_name_here", "_law_sign", "_law_one"]) (sc := defScope st_l_names) (by decide +kernel)) (fun s H C cl fp => (s_tgN (i := 7) nd rfl (.inl rfl) (.inr rfl) (pr.ne rfl))) (fun s H C cl fp => (s_ts1 (s_cmT rfl (by exact hu) (k := .notin) (s_varA (i := 7) rfl (.inl rfl) rfl rfl) (s_varA (i := 2) rfl (.inr (.inl rfl)) rfl rfl) rfl))) (fun s H C cl fp => (s_var (i := 7) rfl (.inl rfl) rfl rfl)) (fun _ => rfl)) rfl) (s_A (s_C pe_int (by intro _ _; exact rfl)) rfl) (fun _ _ => rfl)) (o_tgN (i := 5) nd rfl (.inl rfl) (.inl rfl) (pr.ne rfl)) rfl rfl rfl) st_nil) st_nil) (st_cons (st_exp (s_mu rfl PySem.F.slot_list_append PySem.F.type_list_append m_append (s_rc0 rfl (.inr (.inl rfl)) rfl rfl) (fun B e => by have pr := PrIn.eq pr e; exact (s_L1 (s_var (i := 5) rfl (.inl rfl) rfl rfl) s_L0 rfl)) rfl rfl rfl rfl rfl) rfl) st_nil)))) (fun _ => rfl)) (st_cons (st_ret (s_mv (i := 2) rfl (.inr (.inl rfl)) rfl rfl)) st_nil)))
abbrev st_l_woven : Stmt := (top 20)
theorem sc_l_woven : FnScope ["_law_state", "_law_walk_here", "_law_name_here", "_law_gap", "_law_depth", "_law_ends", "_law_at", "_law_last"] ["_law_state", "_law_walk_here", "_law_name_here"] (defScope st_l_woven) := ⟨rfl, rfl, rfl, by decide +kernel, rfl, by decide +kernel, by decide +kernel⟩
def b_l_woven : List SS := [.asg (.tp [.nm 3, .nm 4]) (.tup [.call 22 [.var 0, .bi .add (.fn .len [.var 1]) (.lit (.int 1))], .lit (.int 0)]), .asg (.nm 5) (.lst [.var 3]), .for (.nm 6) (.range [.var 3, .fn .len [.var 1]]) [.asg (.nm 4) (.bi .sub (.bi .add (.var 4) (.lit (.int 1))) (.bi .mul (.lit (.int 2)) (.idx (.idx (.var 1) (.var 6)) (.lit (.int 1))))), .ite (.cm .lt (.var 4) (.lit (.int 0))) [.brk] [], .ite (.cm .eq (.var 4) (.lit (.int 0))) [.exp (.mu .append 5 [] [.bi .add (.var 6) (.lit (.int 1))])] []], .asg (.nm 7) (.call 23 [.var 0, .var 5]), .ret (.bi .add (.bi .add (.bi .add (.bi .add (.slc (.var 1) (.lit .non) (.var 3)) (.lst [.tup [.var 2, .lit (.int 0)]])) (.slc (.var 1) (.var 3) (.var 7))) (.lst [.tup [.var 2, .lit (.int 1)]])) (.slc (.var 1) (.var 7) (.lit .non)))]
noncomputable def r_l_woven : List O → FRes := runD (phi [(22, r_l_take), (23, r_l_pick)]) b_l_woven 3 8 [0, 1, 2]
theorem w_l_woven {P : Program} {w : World} {K : PySem.W.Frag} {mg : Str → Option Value} {base : Heap} {cls : Nat → Addr} {dvs : List V} {kws : List (Str × V)} {f : Addr} {fd : FuncData} (F : FunD K "_law_woven" "_law_woven" (defArgs st_l_woven) (defBody st_l_woven) (defScope st_l_woven) dvs kws f fd) (h_d__law_take : Callee P w K mg base ⟨K, cls⟩ "_law_take" ["_law_state", "_law_size"] 2 r_l_take) (h_b_len : mg "len" = none) (h_b_range : mg "range" = none) (h_d__law_pick : Callee P w K mg base ⟨K, cls⟩ "_law_pick" ["_law_state", "_law_some"] 3 r_l_pick) : FnOk P w K mg base (L2.CX P w) 4 f fd ["_law_state", "_law_walk_here", "_law_name_here"] (spOf ⟨K, cls⟩ r_l_woven) :=
  fn_pv F sc_l_woven fun cdv A outer s H E B pr hr => by
    have hu : (cxOf (L2.CX P w) P w K mg base ["_law_state", "_law_walk_here", "_law_name_here", "_law_gap", "_law_depth", "_law_ends", "_law_at", "_law_last"] "_law_woven" (defScope st_l_woven) f cdv A outer s H E).A.units + 200 < cLine := room_hu hr
    have hu1 : (cxOf (L2.CX P w) P w K mg base ["_law_state", "_law_walk_here", "_law_name_here", "_law_gap", "_law_depth", "_law_ends", "_law_at", "_law_last"] "_law_woven" (defScope st_l_woven) f cdv A outer s H E).A.units + 1 < cLine := by omega
    have nd := sc_l_woven.nd
    have tk : Takes (cxOf (L2.CX P w) P w K mg base ["_law_state", "_law_walk_here", "_law_name_here", "_law_gap", "_law_depth", "_law_ends", "_law_at", "_law_last"] "_law_woven" (defScope st_l_woven) f cdv A outer s H E) (fun cls d _ H => E cls d H) := takes_of rfl rfl rfl rfl
    exact (st_cons (st_par2 (i := 3) (j := 4) rfl nd rfl rfl (by decide) rfl rfl (pr.ne rfl) (pr.ne rfl) (s_L1 (s_callC h_d__law_take rfl (by exact hr) (by first | exact Nat.le_refl _ | omega) rfl tk (s_As1 (s_varA (i := 0) rfl (.inl rfl) rfl rfl) (s_As1 (s_A (s_bi rfl (k := .add) (s_A (s_fn (k := .len) rfl rfl rfl rfl rfl h_b_len (s_As1 (s_varA (i := 1) rfl (.inl rfl) rfl rfl) s_As0 rfl) rfl rfl) rfl) (s_A (s_C pe_int (by intro _ _; exact rfl)) rfl)) rfl) s_As0 rfl) rfl) rfl rfl rfl) (s_L1 (s_C pe_int (by intro _ _; exact rfl)) s_L0 rfl) rfl) rfl rfl) (st_cons (st_asg (s_lst (hz_of (by decide)) (s_L1 (s_var (i := 3) rfl (.inl rfl) rfl rfl) s_L0 rfl)) (o_tgN (i := 5) nd rfl (.inl rfl) (.inl rfl) (pr.ne rfl)) rfl rfl rfl) (st_cons (st_forP pr (passes_of rfl) rfl (i_range2 rfl h_b_range (s_L1 (s_var (i := 3) rfl (.inl rfl) rfl rfl) (s_L1 (s_fn (k := .len) rfl rfl rfl rfl rfl h_b_len (s_As1 (s_varA (i := 1) rfl (.inl rfl) rfl rfl) s_As0 rfl) rfl rfl) s_L0 rfl) rfl) rfl rfl) (fun B pr => (s_tgN (i := 6) nd rfl (.inl rfl) (.inl rfl) (pr.ne rfl))) (fun B pr => (st_cons (st_asg (s_bi rfl (k := .sub) (s_A (s_bi rfl (k := .add) (s_varA (i := 4) rfl (.inl rfl) rfl rfl) (s_A (s_C pe_int (by intro _ _; exact rfl)) rfl)) rfl) (s_A (s_bi rfl (k := .mul) (s_A (s_C pe_int (by intro _ _; exact rfl)) rfl) (s_A (s_idx rfl (by exact hu) (s_A (s_idx rfl (by exact hu) (s_varA (i := 1) rfl (.inl rfl) rfl rfl) (s_varA (i := 6) rfl (.inl rfl) rfl rfl) (fun _ _ => rfl)) rfl) (s_A (s_C pe_int (by intro _ _; exact rfl)) rfl) (fun _ _ => rfl)) rfl)) rfl)) (o_tgN (i := 4) nd rfl (.inl rfl) (.inl rfl) (pr.ne rfl)) rfl rfl rfl) (st_cons (st_if (s_cmT rfl (by exact hu) (k := .lt) (s_varA (i := 4) rfl (.inl rfl) rfl rfl) (s_A (s_C pe_int (by intro _ _; exact rfl)) rfl) rfl) (st_cons st_brk st_nil) st_nil) (st_cons (st_if (s_cmT rfl (by exact hu) (k := .eq) (s_varA (i := 4) rfl (.inl rfl) rfl rfl) (s_A (s_C pe_int (by intro _ _; exact rfl)) rfl) rfl) (st_cons (st_exp (s_mu rfl PySem.F.slot_list_append PySem.F.type_list_append m_append (s_rc0 rfl (.inl rfl) rfl rfl) (fun B e => by have pr := PrIn.eq pr e; exact (s_L1 (s_bi rfl (k := .add) (s_varA (i := 6) rfl (.inl rfl) rfl rfl) (s_A (s_C pe_int (by intro _ _; exact rfl)) rfl)) s_L0 rfl)) rfl rfl rfl rfl rfl) rfl) st_nil) st_nil) st_nil)))) (fun _ => rfl)) (st_cons (st_asg (s_callC h_d__law_pick rfl (by exact hr) (by first | exact Nat.le_refl _ | omega) rfl tk (s_As1 (s_varA (i := 0) rfl (.inl rfl) rfl rfl) (s_As1 (s_varA (i := 5) rfl (.inl rfl) rfl rfl) s_As0 rfl) rfl) rfl rfl rfl) (o_tgN (i := 7) nd rfl (.inl rfl) (.inl rfl) (pr.ne rfl)) rfl rfl rfl) (st_cons (st_ret (s_bi rfl (k := .add) (s_A (s_bi rfl (k := .add) (s_A (s_bi rfl (k := .add) (s_A (s_bi rfl (k := .add) (s_A (s_slc rfl (s_varA (i := 1) rfl (.inl rfl) rfl rfl) s_noPart (s_part rfl (s_varA (i := 3) rfl (.inl rfl) rfl rfl))) rfl) (s_A (s_lst (hz_of (by decide)) (s_L1 (s_tup (hz_of (by decide)) (s_L1 (s_var (i := 2) rfl (.inl rfl) rfl rfl) (s_L1 (s_C pe_int (by intro _ _; exact rfl)) s_L0 rfl) rfl)) s_L0 rfl)) rfl)) rfl) (s_A (s_slc rfl (s_varA (i := 1) rfl (.inl rfl) rfl rfl) (s_part rfl (s_varA (i := 3) rfl (.inl rfl) rfl rfl)) (s_part rfl (s_varA (i := 7) rfl (.inl rfl) rfl rfl))) rfl)) rfl) (s_A (s_lst (hz_of (by decide)) (s_L1 (s_tup (hz_of (by decide)) (s_L1 (s_var (i := 2) rfl (.inl rfl) rfl rfl) (s_L1 (s_C pe_int (by intro _ _; exact rfl)) s_L0 rfl) rfl)) s_L0 rfl)) rfl)) rfl) (s_A (s_slc rfl (s_varA (i := 1) rfl (.inl rfl) rfl rfl) (s_part rfl (s_varA (i := 7) rfl (.inl rfl) rfl rfl)) s_noPart) rfl))) st_nil)))))
abbrev st_l_walk : Stmt := (top 21)
theorem sc_l_walk : FnScope ["_law_state", "_law_names_here", "_law_walk_here", "_law_name_here"] ["_law_state", "_law_names_here"] (defScope st_l_walk) := ⟨rfl, rfl, rfl, by decide +kernel, rfl, by decide +kernel, by decide +kernel⟩
def b_l_walk : List SS := [.asg (.nm 2) (.lst []), .for (.nm 3) (.of (.var 1)) [.asg (.nm 2) (.call 26 [.var 0, .var 2, .var 3])], .ret (.mv 2)]
noncomputable def r_l_walk : List O → FRes := runD (phi [(26, r_l_woven)]) b_l_walk 2 4 [0, 1]
theorem w_l_walk {P : Program} {w : World} {K : PySem.W.Frag} {mg : Str → Option Value} {base : Heap} {cls : Nat → Addr} {dvs : List V} {kws : List (Str × V)} {f : Addr} {fd : FuncData} (F : FunD K "_law_walk" "_law_walk" (defArgs st_l_walk) (defBody st_l_walk) (defScope st_l_walk) dvs kws f fd) (h_d__law_woven : Callee P w K mg base ⟨K, cls⟩ "_law_woven" ["_law_state", "_law_walk_here", "_law_name_here"] 4 r_l_woven) : FnOk P w K mg base (L2.CX P w) 5 f fd ["_law_state", "_law_names_here"] (spOf ⟨K, cls⟩ r_l_walk) :=
  fn_pv F sc_l_walk fun cdv A outer s H E B pr hr => by
    have hu : (cxOf (L2.CX P w) P w K mg base ["_law_state", "_law_names_here", "_law_walk_here", "_law_name_here"] "_law_walk" (defScope st_l_walk) f cdv A outer s H E).A.units + 200 < cLine := room_hu hr
    have hu1 : (cxOf (L2.CX P w) P w K mg base ["_law_state", "_law_names_here", "_law_walk_here", "_law_name_here"] "_law_walk" (defScope st_l_walk) f cdv A outer s H E).A.units + 1 < cLine := by omega
    have nd := sc_l_walk.nd
    have tk : Takes (cxOf (L2.CX P w) P w K mg base ["_law_state", "_law_names_here", "_law_walk_here", "_law_name_here"] "_law_walk" (defScope st_l_walk) f cdv A outer s H E) (fun cls d _ H => E cls d H) := takes_of rfl rfl rfl rfl
    exact (st_cons (st_asg (s_lst (hz_of (by decide)) s_L0) (o_tgN (i := 2) nd rfl (.inl rfl) (.inl rfl) (pr.ne rfl)) rfl rfl rfl) (st_cons (st_forP pr (passes_of rfl) rfl (i_of rfl (s_varA (i := 1) rfl (.inl rfl) rfl rfl)) (fun B pr => (s_tgN (i := 3) nd rfl (.inl rfl) (.inl rfl) (pr.ne rfl))) (fun B pr => (st_cons (st_asg (s_callC h_d__law_woven rfl (by exact hr) (by first | exact Nat.le_refl _ | omega) rfl tk (s_As1 (s_varA (i := 0) rfl (.inl rfl) rfl rfl) (s_As1 (s_varA (i := 2) rfl (.inl rfl) rfl rfl) (s_As1 (s_varA (i := 3) rfl (.inl rfl) rfl rfl) s_As0 rfl) rfl) rfl) rfl rfl rfl) (o_tgN (i := 2) nd rfl (.inl rfl) (.inl rfl) (pr.ne rfl)) rfl rfl rfl) st_nil)) (fun _ => rfl)) (st_cons (st_ret (s_mv (i := 2) rfl (.inl rfl) rfl rfl)) st_nil)))
abbrev st_l_shape : Stmt := (top 22)
theorem sc_l_shape : FnScope ["_law_walk_here", "_law_levels", "_law_opened", "_law_name_here", "_law_side", "_law_inner"] ["_law_walk_here"] (defScope st_l_shape) := ⟨rfl, rfl, rfl, by decide +kernel, rfl, by decide +kernel, by decide +kernel⟩
def b_l_shape : List SS := [.asg (.tp [.nm 1, .nm 2]) (.tup [.lst [.lst []], .lst []]), .for (.tp [.nm 3, .nm 4]) (.of (.var 0)) [.ite (.cm .eq (.var 4) (.lit (.int 0))) [.exp (.mu .append 2 [] [.var 3]), .exp (.mu .append 1 [] [.lst []])] [.asg (.nm 5) (.fn .tuple [.mu .pop 1 [] []]), .exp (.mu .append 1 [.un .neg (.lit (.int 1))] [.tup [.mu .pop 2 [] [], .var 5]])]], .ret (.fn .tuple [.idx (.var 1) (.lit (.int 0))])]
noncomputable def r_l_shape : List O → FRes := runD (phi []) b_l_shape 1 6 [0]
theorem w_l_shape {P : Program} {w : World} {K : PySem.W.Frag} {mg : Str → Option Value} {base : Heap} {cls : Nat → Addr} {dvs : List V} {kws : List (Str × V)} {f : Addr} {fd : FuncData} (F : FunD K "_law_shape" "_law_shape" (defArgs st_l_shape) (defBody st_l_shape) (defScope st_l_shape) dvs kws f fd) (h_b_tuple : mg "tuple" = none) : FnOk P w K mg base (L2.CX P w) 1 f fd ["_law_walk_here"] (spOf ⟨K, cls⟩ r_l_shape) :=
  fn_pv F sc_l_shape fun cdv A outer s H E B pr hr => by
    have hu : (cxOf (L2.CX P w) P w K mg base ["_law_walk_here", "_law_levels", "_law_opened", "_law_name_here", "_law_side", "_law_inner"] "_law_shape" (defScope st_l_shape) f cdv A outer s H E).A.units + 200 < cLine := room_hu hr
    have hu1 : (cxOf (L2.CX P w) P w K mg base ["_law_walk_here", "_law_levels", "_law_opened", "_law_name_here", "_law_side", "_law_inner"] "_law_shape" (defScope st_l_shape) f cdv A outer s H E).A.units + 1 < cLine := by omega
    have nd := sc_l_shape.nd
    have tk : Takes (cxOf (L2.CX P w) P w K mg base ["_law_walk_here", "_law_levels", "_law_opened", "_law_name_here", "_law_side", "_law_inner"] "_law_shape" (defScope st_l_shape) f cdv A outer s H E) (fun cls d _ H => E cls d H) := takes_of rfl rfl rfl rfl
    exact (st_cons (st_par2 (i := 1) (j := 2) rfl nd rfl rfl (by decide) rfl rfl (pr.ne rfl) (pr.ne rfl) (s_L1 (s_lst (hz_of (by decide)) (s_L1 (s_lst (hz_of (by decide)) s_L0) s_L0 rfl)) (s_L1 (s_lst (hz_of (by decide)) s_L0) s_L0 rfl) rfl) rfl rfl) (st_cons (st_forP pr (passes_of rfl) rfl (i_of rfl (s_varA (i := 0) rfl (.inl rfl) rfl rfl)) (fun B pr => (s_tgT rfl rfl (s_tgs1 (s_tgN (i := 3) nd rfl (.inl rfl) (.inl rfl) (pr.ne rfl)) (s_tgs1 (s_tgN (i := 4) nd rfl (.inl rfl) (.inl rfl) (pr.ne rfl)) s_tgs0 rfl) rfl) rfl rfl)) (fun B pr => (st_cons (st_if (s_cmT rfl (by exact hu) (k := .eq) (s_varA (i := 4) rfl (.inl rfl) rfl rfl) (s_A (s_C pe_int (by intro _ _; exact rfl)) rfl) rfl) (st_cons (st_exp (s_mu rfl PySem.F.slot_list_append PySem.F.type_list_append m_append (s_rc0 rfl (.inl rfl) rfl rfl) (fun B e => by have pr := PrIn.eq pr e; exact (s_L1 (s_var (i := 3) rfl (.inl rfl) rfl rfl) s_L0 rfl)) rfl rfl rfl rfl rfl) rfl) (st_cons (st_exp (s_mu rfl PySem.F.slot_list_append PySem.F.type_list_append m_append (s_rc0 rfl (.inl rfl) rfl rfl) (fun B e => by have pr := PrIn.eq pr e; exact (s_L1 (s_lst (hz_of (by decide)) s_L0) s_L0 rfl)) rfl rfl rfl rfl rfl) rfl) st_nil)) (st_cons (st_asg (s_fn (k := .tuple) rfl rfl rfl rfl rfl h_b_tuple (s_As1 (s_A (s_mu0 rfl PySem.F.slot_list_pop PySem.F.type_list_pop m_pop (s_rc0 rfl (.inl rfl) rfl rfl) rfl rfl) rfl) s_As0 rfl) rfl rfl) (o_tgN (i := 5) nd rfl (.inl rfl) (.inl rfl) (pr.ne rfl)) rfl rfl rfl) (st_cons (st_exp (s_mu rfl PySem.F.slot_list_append PySem.F.type_list_append m_append (s_rc1 (by exact hu) (s_rc0 rfl (.inl rfl) rfl rfl) (fun B e => by have pr := PrIn.eq pr e; exact (s_neg (s_A (s_C pe_int (by intro _ _; exact rfl)) rfl))) (fun _ _ => rfl)) (fun B e => by have pr := PrIn.eq pr e; exact (s_L1 (s_tup (hz_of (by decide)) (s_L1 (s_mu0 rfl PySem.F.slot_list_pop PySem.F.type_list_pop m_pop (s_rc0 rfl (.inl rfl) rfl rfl) rfl rfl) (s_L1 (s_var (i := 5) rfl (.inl rfl) rfl rfl) s_L0 rfl) rfl)) s_L0 rfl)) rfl rfl rfl rfl rfl) rfl) st_nil))) st_nil)) (fun _ => rfl)) (st_cons (st_ret (s_fn (k := .tuple) rfl rfl rfl rfl rfl h_b_tuple (s_As1 (s_A (s_idx rfl (by exact hu) (s_varA (i := 1) rfl (.inl rfl) rfl rfl) (s_A (s_C pe_int (by intro _ _; exact rfl)) rfl) (fun _ _ => rfl)) rfl) s_As0 rfl) rfl rfl)) st_nil)))
abbrev st_l_parents : Stmt := (top 23)
theorem sc_l_parents : FnScope ["_law_walk_here", "_law_found", "_law_opened", "_law_name_here", "_law_side"] ["_law_walk_here"] (defScope st_l_parents) := ⟨rfl, rfl, rfl, by decide +kernel, rfl, by decide +kernel, by decide +kernel⟩
def b_l_parents : List SS := [.asg (.tp [.nm 1, .nm 2]) (.tup [.dct [], .lst [.lit .non]]), .for (.tp [.nm 3, .nm 4]) (.of (.var 0)) [.ite (.cm .eq (.var 4) (.lit (.int 0))) [.sub 1 [.var 3] (.idx (.var 2) (.un .neg (.lit (.int 1)))), .exp (.mu .append 2 [] [.var 3])] [.exp (.mu .pop 2 [] [])]], .ret (.mv 1)]
noncomputable def r_l_parents : List O → FRes := runD (phi []) b_l_parents 1 5 [0]
theorem w_l_parents {P : Program} {w : World} {K : PySem.W.Frag} {mg : Str → Option Value} {base : Heap} {cls : Nat → Addr} {dvs : List V} {kws : List (Str × V)} {f : Addr} {fd : FuncData} (F : FunD K "_law_parents" "_law_parents" (defArgs st_l_parents) (defBody st_l_parents) (defScope st_l_parents) dvs kws f fd) : FnOk P w K mg base (L2.CX P w) 1 f fd ["_law_walk_here"] (spOf ⟨K, cls⟩ r_l_parents) :=
  fn_pv F sc_l_parents fun cdv A outer s H E B pr hr => by
    have hu : (cxOf (L2.CX P w) P w K mg base ["_law_walk_here", "_law_found", "_law_opened", "_law_name_here", "_law_side"] "_law_parents" (defScope st_l_parents) f cdv A outer s H E).A.units + 200 < cLine := room_hu hr
    have hu1 : (cxOf (L2.CX P w) P w K mg base ["_law_walk_here", "_law_found", "_law_opened", "_law_name_here", "_law_side"] "_law_parents" (defScope st_l_parents) f cdv A outer s H E).A.units + 1 < cLine := by omega
    have nd := sc_l_parents.nd
    have tk : Takes (cxOf (L2.CX P w) P w K mg base ["_law_walk_here", "_law_found", "_law_opened", "_law_name_here", "_law_side"] "_law_parents" (defScope st_l_parents) f cdv A outer s H E) (fun cls d _ H => E cls d H) := takes_of rfl rfl rfl rfl
    exact (st_cons (st_par2 (i := 1) (j := 2) rfl nd rfl rfl (by decide) rfl rfl (pr.ne rfl) (pr.ne rfl) (s_L1 s_dct0 (s_L1 (s_lst (hz_of (by decide)) (s_L1 (s_C pe_non (by intro _ _; exact rfl)) s_L0 rfl)) s_L0 rfl) rfl) rfl rfl) (st_cons (st_forP pr (passes_of rfl) rfl (i_of rfl (s_varA (i := 0) rfl (.inl rfl) rfl rfl)) (fun B pr => (s_tgT rfl rfl (s_tgs1 (s_tgN (i := 3) nd rfl (.inl rfl) (.inl rfl) (pr.ne rfl)) (s_tgs1 (s_tgN (i := 4) nd rfl (.inl rfl) (.inl rfl) (pr.ne rfl)) s_tgs0 rfl) rfl) rfl rfl)) (fun B pr => (st_cons (st_if (s_cmT rfl (by exact hu) (k := .eq) (s_varA (i := 4) rfl (.inl rfl) rfl rfl) (s_A (s_C pe_int (by intro _ _; exact rfl)) rfl) rfl) (st_cons (st_sub rfl (by exact hu1) (s_idx rfl (by exact hu) (s_varA (i := 2) rfl (.inl rfl) rfl rfl) (s_A (s_neg (s_A (s_C pe_int (by intro _ _; exact rfl)) rfl)) rfl) (fun _ _ => rfl)) (s_rc0 rfl (.inl rfl) rfl rfl) (fun B e => by have pr := PrIn.eq pr e; exact (s_var (i := 3) rfl (.inl rfl) rfl rfl)) rfl rfl rfl (fun _ => rfl)) (st_cons (st_exp (s_mu rfl PySem.F.slot_list_append PySem.F.type_list_append m_append (s_rc0 rfl (.inl rfl) rfl rfl) (fun B e => by have pr := PrIn.eq pr e; exact (s_L1 (s_var (i := 3) rfl (.inl rfl) rfl rfl) s_L0 rfl)) rfl rfl rfl rfl rfl) rfl) st_nil)) (st_cons (st_exp (s_mu0 rfl PySem.F.slot_list_pop PySem.F.type_list_pop m_pop (s_rc0 rfl (.inl rfl) rfl rfl) rfl rfl) rfl) st_nil)) st_nil)) (fun _ => rfl)) (st_cons (st_ret (s_mv (i := 1) rfl (.inl rfl) rfl rfl)) st_nil)))
abbrev st_is_shape : Stmt := (top 10)
theorem sc_is_shape : FnScope ["value", "found", "pending", "level", "node"] ["value"] (defScope st_is_shape) := ⟨rfl, rfl, rfl, by decide +kernel, rfl, by decide +kernel, by decide +kernel⟩
def b_is_shape : List SS := [.asg (.tp [.nm 1, .nm 2]) (.tup [.lst [], .lst [.var 0]]), .whl (.cm .ne (.var 2) (.lst [])) [.asg (.nm 3) (.mu .pop 2 [] []), .ite (.bnot (.isa [20] [.tuple] (.var 3))) [.ret (.lit (.bl false))] [], .for (.nm 4) (.of (.var 3)) [.ite (.bor [.bnot (.isa [20] [.tuple] (.var 4)), .cm .ne (.fn .len [.var 4]) (.lit (.int 2)), .bnot (.call 2 [.idx (.var 4) (.lit (.int 0))])]) [.ret (.lit (.bl false))] [], .exp (.mu .append 1 [] [.idx (.var 4) (.lit (.int 0))]), .ite (.cm .gt (.fn .len [.var 1]) (.glo "MOST_NAMES" (.int 12))) [.ret (.lit (.bl false))] [], .exp (.mu .append 2 [] [.idx (.var 4) (.lit (.int 1))])]], .ret (.cm .eq (.fn .lenset [.var 1]) (.fn .len [.var 1]))]
noncomputable def r_is_shape : List O → FRes := runD (phi [(2, r_is_name)]) b_is_shape 1 5 [0]
theorem w_is_shape {P : Program} {w : World} {K : PySem.W.Frag} {mg : Str → Option Value} {base : Heap} {cls : Nat → Addr} {dvs : List V} {kws : List (Str × V)} {f : Addr} {fd : FuncData} (F : FunD K "is_shape" "is_shape" (defArgs st_is_shape) (defBody st_is_shape) (defScope st_is_shape) dvs kws f fd) (h_isa : IsaT K ⟨K, cls⟩ [20]) (h_b_tuple : mg "tuple" = none) (h_b_isinstance : mg "isinstance" = none) (h_b_len : mg "len" = none) (h_d_is_name : Callee P w K mg base ⟨K, cls⟩ "is_name" ["value"] 1 r_is_name) (h_c_MOST_NAMES : ∃ t, mg "MOST_NAMES" = some (.int 12 t)) (h_b_set : mg "set" = none) : FnOk P w K mg base (L2.CX P w) 2 f fd ["value"] (spOf ⟨K, cls⟩ r_is_shape) :=
  fn_pv F sc_is_shape fun cdv A outer s H E B pr hr => by
    have hu : (cxOf (L2.CX P w) P w K mg base ["value", "found", "pending", "level", "node"] "is_shape" (defScope st_is_shape) f cdv A outer s H E).A.units + 200 < cLine := room_hu hr
    have hu1 : (cxOf (L2.CX P w) P w K mg base ["value", "found", "pending", "level", "node"] "is_shape" (defScope st_is_shape) f cdv A outer s H E).A.units + 1 < cLine := by omega
    have nd := sc_is_shape.nd
    have tk : Takes (cxOf (L2.CX P w) P w K mg base ["value", "found", "pending", "level", "node"] "is_shape" (defScope st_is_shape) f cdv A outer s H E) (fun cls d _ H => E cls d H) := takes_of rfl rfl rfl rfl
    exact (st_cons (st_par2 (i := 1) (j := 2) rfl nd rfl rfl (by decide) rfl rfl (pr.ne rfl) (pr.ne rfl) (s_L1 (s_lst (hz_of (by decide)) s_L0) (s_L1 (s_lst (hz_of (by decide)) (s_L1 (s_var (i := 0) rfl (.inl rfl) rfl rfl) s_L0 rfl)) s_L0 rfl) rfl) rfl rfl) (st_cons (st_whl (passes_of rfl) (s_cmT rfl (by exact hu) (k := .ne) (s_varA (i := 2) rfl (.inl rfl) rfl rfl) (s_A (s_lst (hz_of (by decide)) s_L0) rfl) rfl) (st_cons (st_asg (s_mu0 rfl PySem.F.slot_list_pop PySem.F.type_list_pop m_pop (s_rc0 rfl (.inl rfl) rfl rfl) rfl rfl) (o_tgN (i := 3) nd rfl (.inl rfl) (.inl rfl) (pr.ne rfl)) rfl rfl rfl) (st_cons (st_if (s_notT (s_T rfl (s_A (s_isa (t := .tuple) rfl h_isa rfl rfl h_b_isinstance (s_varA (i := 3) rfl (.inl rfl) rfl rfl) (pe_bltn rfl h_b_tuple (by decide +kernel) rfl) rfl rfl rfl) rfl) rfl rfl)) (st_cons (st_ret (s_C pe_bl (by intro _ _; exact rfl))) st_nil) st_nil) (st_cons (st_forP pr (passes_of rfl) rfl (i_of rfl (s_varA (i := 3) rfl (.inl rfl) rfl rfl)) (fun B pr => (s_tgN (i := 4) nd rfl (.inl rfl) (.inl rfl) (pr.ne rfl))) (fun B pr => (st_cons (st_if (s_borT (s_orT (s_notT (s_T rfl (s_A (s_isa (t := .tuple) rfl h_isa rfl rfl h_b_isinstance (s_varA (i := 4) rfl (.inl rfl) rfl rfl) (pe_bltn rfl h_b_tuple (by decide +kernel) rfl) rfl rfl rfl) rfl) rfl rfl)) (s_orT (s_cmT rfl (by exact hu) (k := .ne) (s_A (s_fn (k := .len) rfl rfl rfl rfl rfl h_b_len (s_As1 (s_varA (i := 4) rfl (.inl rfl) rfl rfl) s_As0 rfl) rfl rfl) rfl) (s_A (s_C pe_int (by intro _ _; exact rfl)) rfl) rfl) (s_orT1 (s_notT (s_T rfl (s_A (s_callC h_d_is_name rfl (by exact hr) (by first | exact Nat.le_refl _ | omega) rfl tk (s_As1 (s_A (s_idx rfl (by exact hu) (s_varA (i := 4) rfl (.inl rfl) rfl rfl) (s_A (s_C pe_int (by intro _ _; exact rfl)) rfl) (fun _ _ => rfl)) rfl) s_As0 rfl) rfl rfl rfl) rfl) rfl rfl)))))) (st_cons (st_ret (s_C pe_bl (by intro _ _; exact rfl))) st_nil) st_nil) (st_cons (st_exp (s_mu rfl PySem.F.slot_list_append PySem.F.type_list_append m_append (s_rc0 rfl (.inl rfl) rfl rfl) (fun B e => by have pr := PrIn.eq pr e; exact (s_L1 (s_idx rfl (by exact hu) (s_varA (i := 4) rfl (.inl rfl) rfl rfl) (s_A (s_C pe_int (by intro _ _; exact rfl)) rfl) (fun _ _ => rfl)) s_L0 rfl)) rfl rfl rfl rfl rfl) rfl) (st_cons (st_if (s_cmT rfl (by exact hu) (k := .gt) (s_A (s_fn (k := .len) rfl rfl rfl rfl rfl h_b_len (s_As1 (s_varA (i := 1) rfl (.inl rfl) rfl rfl) s_As0 rfl) rfl rfl) rfl) (s_A (s_gint rfl h_c_MOST_NAMES rfl) rfl) rfl) (st_cons (st_ret (s_C pe_bl (by intro _ _; exact rfl))) st_nil) st_nil) (st_cons (st_exp (s_mu rfl PySem.F.slot_list_append PySem.F.type_list_append m_append (s_rc0 rfl (.inl rfl) rfl rfl) (fun B e => by have pr := PrIn.eq pr e; exact (s_L1 (s_idx rfl (by exact hu) (s_varA (i := 4) rfl (.inl rfl) rfl rfl) (s_A (s_C pe_int (by intro _ _; exact rfl)) rfl) (fun _ _ => rfl)) s_L0 rfl)) rfl rfl rfl rfl rfl) rfl) st_nil))))) (fun _ => rfl)) st_nil)))) (st_cons (st_ret (s_cm rfl (by exact hu) (k := .eq) (s_A (s_lenset rfl rfl rfl h_b_len rfl h_b_set (s_varA (i := 1) rfl (.inl rfl) rfl rfl) rfl rfl) rfl) (s_A (s_fn (k := .len) rfl rfl rfl rfl rfl h_b_len (s_As1 (s_varA (i := 1) rfl (.inl rfl) rfl rfl) s_As0 rfl) rfl rfl) rfl) rfl)) st_nil)))
abbrev st_walk_of : Stmt := (top 11)
theorem sc_walk_of : FnScope ["shape", "found", "name", "inner"] ["shape"] (defScope st_walk_of) := ⟨rfl, rfl, rfl, by decide +kernel, rfl, by decide +kernel, by decide +kernel⟩
def b_walk_of : List SS := [.asg (.nm 1) (.lst []), .for (.tp [.nm 2, .nm 3]) (.of (.var 0)) [.exp (.mu .append 1 [] [.tup [.var 2, .lit (.int 0)]]), .exp (.mu .extend 1 [] [.call 4 [.var 3]]), .exp (.mu .append 1 [] [.tup [.var 2, .lit (.int 1)]])], .ret (.mv 1)]
noncomputable def rr_walk_of : Nat → List O → FRes
  | 0 => fun _ => .bad
  | n + 1 => runD (phi [(4, rr_walk_of n)]) b_walk_of 1 4 [0]
noncomputable def r_walk_of : List O → FRes := rr_walk_of 40
theorem ww_walk_of {P : Program} {w : World} {K : PySem.W.Frag} {mg : Str → Option Value} {base : Heap} {cls : Nat → Addr} {dvs : List V} {kws : List (Str × V)} {f : Addr} {fd : FuncData} (F : FunD K "walk_of" "walk_of" (defArgs st_walk_of) (defBody st_walk_of) (defScope st_walk_of) dvs kws f fd) (gm : mg "walk_of" = some (.ref f)) (hb : Binds K fd ["shape"] []) : ∀ n, FnOk P w K mg base (L2.CX P w) (0 + n) f fd ["shape"] (spOf ⟨K, cls⟩ (rr_walk_of n))
  | 0 => fn_bad
  | n + 1 => fn_pv F sc_walk_of fun cdv A outer s H E B pr hr => by
    have h_d_walk_of : Callee P w K mg base ⟨K, cls⟩ "walk_of" ["shape"] (0 + n) (rr_walk_of n) := ⟨_, _, ww_walk_of F gm hb  n, gm, F.kp, hb⟩
    have hu : (cxOf (L2.CX P w) P w K mg base ["shape", "found", "name", "inner"] "walk_of" (defScope st_walk_of) f cdv A outer s H E).A.units + 200 < cLine := room_hu hr
    have hu1 : (cxOf (L2.CX P w) P w K mg base ["shape", "found", "name", "inner"] "walk_of" (defScope st_walk_of) f cdv A outer s H E).A.units + 1 < cLine := by omega
    have nd := sc_walk_of.nd
    have tk : Takes (cxOf (L2.CX P w) P w K mg base ["shape", "found", "name", "inner"] "walk_of" (defScope st_walk_of) f cdv A outer s H E) (fun cls d _ H => E cls d H) := takes_of rfl rfl rfl rfl
    exact (st_cons (st_asg (s_lst (hz_of (by decide)) s_L0) (o_tgN (i := 1) nd rfl (.inl rfl) (.inl rfl) (pr.ne rfl)) rfl rfl rfl) (st_cons (st_forP pr (passes_of rfl) rfl (i_of rfl (s_varA (i := 0) rfl (.inl rfl) rfl rfl)) (fun B pr => (s_tgT rfl rfl (s_tgs1 (s_tgN (i := 2) nd rfl (.inl rfl) (.inl rfl) (pr.ne rfl)) (s_tgs1 (s_tgN (i := 3) nd rfl (.inl rfl) (.inl rfl) (pr.ne rfl)) s_tgs0 rfl) rfl) rfl rfl)) (fun B pr => (st_cons (st_exp (s_mu rfl PySem.F.slot_list_append PySem.F.type_list_append m_append (s_rc0 rfl (.inl rfl) rfl rfl) (fun B e => by have pr := PrIn.eq pr e; exact (s_L1 (s_tup (hz_of (by decide)) (s_L1 (s_var (i := 2) rfl (.inl rfl) rfl rfl) (s_L1 (s_C pe_int (by intro _ _; exact rfl)) s_L0 rfl) rfl)) s_L0 rfl)) rfl rfl rfl rfl rfl) rfl) (st_cons (st_exp (s_mu rfl PySem.F.slot_list_extend PySem.F.type_list_extend (m_extend rfl) (s_rc0 rfl (.inl rfl) rfl rfl) (fun B e => by have pr := PrIn.eq pr e; exact (s_L1 (s_callC h_d_walk_of rfl (by exact hr) (by first | exact Nat.le_refl _ | omega) rfl tk (s_As1 (s_varA (i := 3) rfl (.inl rfl) rfl rfl) s_As0 rfl) rfl rfl rfl) s_L0 rfl)) rfl rfl rfl rfl rfl) rfl) (st_cons (st_exp (s_mu rfl PySem.F.slot_list_append PySem.F.type_list_append m_append (s_rc0 rfl (.inl rfl) rfl rfl) (fun B e => by have pr := PrIn.eq pr e; exact (s_L1 (s_tup (hz_of (by decide)) (s_L1 (s_var (i := 2) rfl (.inl rfl) rfl rfl) (s_L1 (s_C pe_int (by intro _ _; exact rfl)) s_L0 rfl) rfl)) s_L0 rfl)) rfl rfl rfl rfl rfl) rfl) st_nil)))) (fun _ => rfl)) (st_cons (st_ret (s_mv (i := 1) rfl (.inl rfl) rfl rfl)) st_nil)))
theorem w_walk_of {P : Program} {w : World} {K : PySem.W.Frag} {mg : Str → Option Value} {base : Heap} {cls : Nat → Addr} {dvs : List V} {kws : List (Str × V)} {f : Addr} {fd : FuncData} (F : FunD K "walk_of" "walk_of" (defArgs st_walk_of) (defBody st_walk_of) (defScope st_walk_of) dvs kws f fd) (gm : mg "walk_of" = some (.ref f)) (hb : Binds K fd ["shape"] []) : FnOk P w K mg base (L2.CX P w) 40 f fd ["shape"] (spOf ⟨K, cls⟩ r_walk_of) := ww_walk_of F gm hb  40
abbrev st_Tree__init_ : Stmt := (inClass (top 12) 1)
theorem sc_Tree__init_ : FnScope ["self", "shape", "opened", "name", "side"] ["self", "shape"] (defScope st_Tree__init_) := ⟨rfl, rfl, rfl, by decide +kernel, rfl, by decide +kernel, by decide +kernel⟩
def b_Tree__init_ : List SS := [.ite (.bnot (.call 3 [.var 1])) [.never] [], .fld 0 20 "own_shape" (.var 1), .fld 0 20 "own_walk" (.fn .tuple [.call 4 [.var 1]]), .fld 0 20 "own_names" (.fn .tuple [.comp .lst (.var 3) [3, 4] (.tp [.nm 3, .nm 4]) (.of (.fld 20 (.var 0) "own_walk")) [.cm .eq (.var 4) (.lit (.int 0))]]), .asg (.tp [.fl 0 20 "above", .nm 2]) (.tup [.dct [], .lst []]), .for (.tp [.nm 3, .nm 4]) (.of (.fld 20 (.var 0) "own_walk")) [.ite (.cm .eq (.var 4) (.lit (.int 0))) [.sub 0 [.var 3, .lit (.exc 20 [.str "above"])] (.ite (.cm .ne (.var 2) (.lst [])) (.idx (.var 2) (.un .neg (.lit (.int 1)))) (.lit .non)), .exp (.mu .append 2 [] [.var 3])] [.exp (.mu .pop 2 [] [])]]]
noncomputable def r_Tree__init_ : List O → FRes := runD (phi [(3, r_is_shape), (4, r_walk_of)]) b_Tree__init_ 2 5 [0, 1]
theorem w_Tree__init_ {P : Program} {w : World} {K : PySem.W.Frag} {mg : Str → Option Value} {base : Heap} {cls : Nat → Addr} {dvs : List V} {kws : List (Str × V)} {f : Addr} {fd : FuncData} (F : FunD K "__init__" "Tree.__init__" (defArgs st_Tree__init_) (defBody st_Tree__init_) (defScope st_Tree__init_) dvs kws f fd) (h_d_is_shape : Callee P w K mg base ⟨K, cls⟩ "is_shape" ["value"] 2 r_is_shape) (h_f_Tree_own_shape : Cls K (cls 20) ∧ NoAttr K (cls 20) "own_shape") (h_f_Tree_own_walk : Cls K (cls 20) ∧ NoAttr K (cls 20) "own_walk") (h_d_walk_of : Callee P w K mg base ⟨K, cls⟩ "walk_of" ["shape"] 40 r_walk_of) (h_b_tuple : mg "tuple" = none) (h_f_Tree_own_names : Cls K (cls 20) ∧ NoAttr K (cls 20) "own_names") (h_f_Tree_above : Cls K (cls 20) ∧ NoAttr K (cls 20) "above") : FnOk P w K mg base (L2.CX P w) 41 f fd ["self", "shape"] (spOf ⟨K, cls⟩ r_Tree__init_) :=
  fn_pv F sc_Tree__init_ fun cdv A outer s H E B pr hr => by
    have hu : (cxOf (L2.CX P w) P w K mg base ["self", "shape", "opened", "name", "side"] "Tree.__init__" (defScope st_Tree__init_) f cdv A outer s H E).A.units + 200 < cLine := room_hu hr
    have hu1 : (cxOf (L2.CX P w) P w K mg base ["self", "shape", "opened", "name", "side"] "Tree.__init__" (defScope st_Tree__init_) f cdv A outer s H E).A.units + 1 < cLine := by omega
    have nd := sc_Tree__init_.nd
    have tk : Takes (cxOf (L2.CX P w) P w K mg base ["self", "shape", "opened", "name", "side"] "Tree.__init__" (defScope st_Tree__init_) f cdv A outer s H E) (fun cls d _ H => E cls d H) := takes_of rfl rfl rfl rfl
    exact (st_cons (st_if (s_notT (s_T rfl (s_A (s_callC h_d_is_shape rfl (by exact hr) (by first | exact Nat.le_refl _ | omega) rfl tk (s_As1 (s_varA (i := 1) rfl (.inl rfl) rfl rfl) s_As0 rfl) rfl rfl rfl) rfl) rfl rfl)) (st_cons st_never st_nil) st_nil) (st_cons (st_fld (i := 0) h_f_Tree_own_shape rfl (s_var (i := 1) rfl (.inl rfl) rfl rfl) rfl (.inl rfl) rfl rfl rfl) (st_cons (st_fld (i := 0) h_f_Tree_own_walk rfl (s_fn (k := .tuple) rfl rfl rfl rfl rfl h_b_tuple (s_As1 (s_A (s_callC h_d_walk_of rfl (by exact hr) (by first | exact Nat.le_refl _ | omega) rfl tk (s_As1 (s_varA (i := 1) rfl (.inl rfl) rfl rfl) s_As0 rfl) rfl rfl rfl) rfl) s_As0 rfl) rfl rfl) rfl (.inl rfl) rfl rfl rfl) (st_cons (st_fld (i := 0) h_f_Tree_own_names rfl (s_fn (k := .tuple) rfl rfl rfl rfl rfl h_b_tuple (s_As1 (s_A (s_compP pr rfl nd (own := [("name", 3), ("side", 4)]) (se := .var 3) (t := .tp [.nm 3, .nm 4]) (ie := .of (.fld 20 (.var 0) "own_walk")) (sifs := [.cm .eq (.var 4) (.lit (.int 0))]) (by decide) rfl (by decide) (i_of rfl (s_A (s_fld h_f_Tree_own_walk rfl (s_varA (i := 0) rfl (.inl rfl) rfl rfl)) rfl)) (blkOk_by (N := ["self", "shape", "opened", "name", "side"]) (sc := defScope st_Tree__init_) (by decide +kernel)) (fun s H C cl fp => (s_tgT rfl rfl (s_tgs1 (s_tgN (i := 3) nd rfl (.inl rfl) (.inr rfl) (pr.ne rfl)) (s_tgs1 (s_tgN (i := 4) nd rfl (.inl rfl) (.inr rfl) (pr.ne rfl)) s_tgs0 rfl) rfl) rfl rfl)) (fun s H C cl fp => (s_ts1 (s_cmT rfl (by exact hu) (k := .eq) (s_varA (i := 4) rfl (.inl rfl) rfl rfl) (s_A (s_C pe_int (by intro _ _; exact rfl)) rfl) rfl))) (fun s H C cl fp => (s_var (i := 3) rfl (.inl rfl) rfl rfl)) (fun _ => rfl)) rfl) s_As0 rfl) rfl rfl) rfl (.inl rfl) rfl rfl rfl) (st_cons (st_asg (s_tup (hz_of (by decide)) (s_L1 s_dct0 (s_L1 (s_lst (hz_of (by decide)) s_L0) s_L0 rfl) rfl)) (o_tgTF rfl rfl (o_tgs1 (o_tgF (i := 0) h_f_Tree_above rfl (.inl rfl) rfl rfl (fun _ => rfl)) (o_tgs1 (o_tgN (i := 2) nd rfl (.inl rfl) (.inl rfl) (pr.ne rfl)) o_tgs0 rfl) rfl) rfl rfl (fun _ _ => goD_fl)) rfl rfl rfl) (st_cons (st_forP pr (passes_of rfl) rfl (i_of rfl (s_A (s_fld h_f_Tree_own_walk rfl (s_varA (i := 0) rfl (.inl rfl) rfl rfl)) rfl)) (fun B pr => (s_tgT rfl rfl (s_tgs1 (s_tgN (i := 3) nd rfl (.inl rfl) (.inl rfl) (pr.ne rfl)) (s_tgs1 (s_tgN (i := 4) nd rfl (.inl rfl) (.inl rfl) (pr.ne rfl)) s_tgs0 rfl) rfl) rfl rfl)) (fun B pr => (st_cons (st_if (s_cmT rfl (by exact hu) (k := .eq) (s_varA (i := 4) rfl (.inl rfl) rfl rfl) (s_A (s_C pe_int (by intro _ _; exact rfl)) rfl) rfl) (st_cons (st_sub rfl (by exact hu1) (s_ite (s_cmT rfl (by exact hu) (k := .ne) (s_varA (i := 2) rfl (.inl rfl) rfl rfl) (s_A (s_lst (hz_of (by decide)) s_L0) rfl) rfl) (s_idx rfl (by exact hu) (s_varA (i := 2) rfl (.inl rfl) rfl rfl) (s_A (s_neg (s_A (s_C pe_int (by intro _ _; exact rfl)) rfl)) rfl) (fun _ _ => rfl)) (s_C pe_non (by intro _ _; exact rfl))) (s_rcf h_f_Tree_above rfl (s_rc0 rfl (.inl rfl) rfl rfl)) (fun B e => by have pr := PrIn.eq pr e; exact (s_var (i := 3) rfl (.inl rfl) rfl rfl)) rfl rfl rfl (fun _ => rfl)) (st_cons (st_exp (s_mu rfl PySem.F.slot_list_append PySem.F.type_list_append m_append (s_rc0 rfl (.inl rfl) rfl rfl) (fun B e => by have pr := PrIn.eq pr e; exact (s_L1 (s_var (i := 3) rfl (.inl rfl) rfl rfl) s_L0 rfl)) rfl rfl rfl rfl rfl) rfl) st_nil)) (st_cons (st_exp (s_mu0 rfl PySem.F.slot_list_pop PySem.F.type_list_pop m_pop (s_rc0 rfl (.inl rfl) rfl rfl) rfl rfl) rfl) st_nil)) st_nil)) (fun _ => rfl)) st_nil))))))
abbrev st_Tree_shape : Stmt := (inClass (top 12) 3)
theorem sc_Tree_shape : FnScope ["self"] ["self"] (defScope st_Tree_shape) := ⟨rfl, rfl, rfl, by decide +kernel, rfl, by decide +kernel, by decide +kernel⟩
def b_Tree_shape : List SS := [.ret (.fld 20 (.var 0) "own_shape")]
noncomputable def r_Tree_shape : List O → FRes := runD (phi []) b_Tree_shape 1 1 [0]
theorem w_Tree_shape {P : Program} {w : World} {K : PySem.W.Frag} {mg : Str → Option Value} {base : Heap} {cls : Nat → Addr} {dvs : List V} {kws : List (Str × V)} {f : Addr} {fd : FuncData} (F : FunD K "shape" "Tree.shape" (defArgs st_Tree_shape) (defBody st_Tree_shape) (defScope st_Tree_shape) dvs kws f fd) (h_f_Tree_own_shape : Cls K (cls 20) ∧ NoAttr K (cls 20) "own_shape") : FnOk P w K mg base (L2.CX P w) 1 f fd ["self"] (spOf ⟨K, cls⟩ r_Tree_shape) :=
  fn_pv F sc_Tree_shape fun cdv A outer s H E B pr hr => by
    have hu : (cxOf (L2.CX P w) P w K mg base ["self"] "Tree.shape" (defScope st_Tree_shape) f cdv A outer s H E).A.units + 200 < cLine := room_hu hr
    have hu1 : (cxOf (L2.CX P w) P w K mg base ["self"] "Tree.shape" (defScope st_Tree_shape) f cdv A outer s H E).A.units + 1 < cLine := by omega
    have nd := sc_Tree_shape.nd
    have tk : Takes (cxOf (L2.CX P w) P w K mg base ["self"] "Tree.shape" (defScope st_Tree_shape) f cdv A outer s H E) (fun cls d _ H => E cls d H) := takes_of rfl rfl rfl rfl
    exact (st_cons (st_ret (s_fld h_f_Tree_own_shape rfl (s_varA (i := 0) rfl (.inl rfl) rfl rfl))) st_nil)
abbrev st_Tree_walk : Stmt := (inClass (top 12) 4)
theorem sc_Tree_walk : FnScope ["self"] ["self"] (defScope st_Tree_walk) := ⟨rfl, rfl, rfl, by decide +kernel, rfl, by decide +kernel, by decide +kernel⟩
def b_Tree_walk : List SS := [.ret (.fld 20 (.var 0) "own_walk")]
noncomputable def r_Tree_walk : List O → FRes := runD (phi []) b_Tree_walk 1 1 [0]
theorem w_Tree_walk {P : Program} {w : World} {K : PySem.W.Frag} {mg : Str → Option Value} {base : Heap} {cls : Nat → Addr} {dvs : List V} {kws : List (Str × V)} {f : Addr} {fd : FuncData} (F : FunD K "walk" "Tree.walk" (defArgs st_Tree_walk) (defBody st_Tree_walk) (defScope st_Tree_walk) dvs kws f fd) (h_f_Tree_own_walk : Cls K (cls 20) ∧ NoAttr K (cls 20) "own_walk") : FnOk P w K mg base (L2.CX P w) 1 f fd ["self"] (spOf ⟨K, cls⟩ r_Tree_walk) :=
  fn_pv F sc_Tree_walk fun cdv A outer s H E B pr hr => by
    have hu : (cxOf (L2.CX P w) P w K mg base ["self"] "Tree.walk" (defScope st_Tree_walk) f cdv A outer s H E).A.units + 200 < cLine := room_hu hr
    have hu1 : (cxOf (L2.CX P w) P w K mg base ["self"] "Tree.walk" (defScope st_Tree_walk) f cdv A outer s H E).A.units + 1 < cLine := by omega
    have nd := sc_Tree_walk.nd
    have tk : Takes (cxOf (L2.CX P w) P w K mg base ["self"] "Tree.walk" (defScope st_Tree_walk) f cdv A outer s H E) (fun cls d _ H => E cls d H) := takes_of rfl rfl rfl rfl
    exact (st_cons (st_ret (s_fld h_f_Tree_own_walk rfl (s_varA (i := 0) rfl (.inl rfl) rfl rfl))) st_nil)
abbrev st_Tree_names : Stmt := (inClass (top 12) 5)
theorem sc_Tree_names : FnScope ["self"] ["self"] (defScope st_Tree_names) := ⟨rfl, rfl, rfl, by decide +kernel, rfl, by decide +kernel, by decide +kernel⟩
def b_Tree_names : List SS := [.ret (.fld 20 (.var 0) "own_names")]
noncomputable def r_Tree_names : List O → FRes := runD (phi []) b_Tree_names 1 1 [0]
theorem w_Tree_names {P : Program} {w : World} {K : PySem.W.Frag} {mg : Str → Option Value} {base : Heap} {cls : Nat → Addr} {dvs : List V} {kws : List (Str × V)} {f : Addr} {fd : FuncData} (F : FunD K "names" "Tree.names" (defArgs st_Tree_names) (defBody st_Tree_names) (defScope st_Tree_names) dvs kws f fd) (h_f_Tree_own_names : Cls K (cls 20) ∧ NoAttr K (cls 20) "own_names") : FnOk P w K mg base (L2.CX P w) 1 f fd ["self"] (spOf ⟨K, cls⟩ r_Tree_names) :=
  fn_pv F sc_Tree_names fun cdv A outer s H E B pr hr => by
    have hu : (cxOf (L2.CX P w) P w K mg base ["self"] "Tree.names" (defScope st_Tree_names) f cdv A outer s H E).A.units + 200 < cLine := room_hu hr
    have hu1 : (cxOf (L2.CX P w) P w K mg base ["self"] "Tree.names" (defScope st_Tree_names) f cdv A outer s H E).A.units + 1 < cLine := by omega
    have nd := sc_Tree_names.nd
    have tk : Takes (cxOf (L2.CX P w) P w K mg base ["self"] "Tree.names" (defScope st_Tree_names) f cdv A outer s H E) (fun cls d _ H => E cls d H) := takes_of rfl rfl rfl rfl
    exact (st_cons (st_ret (s_fld h_f_Tree_own_names rfl (s_varA (i := 0) rfl (.inl rfl) rfl rfl))) st_nil)
abbrev st_Tree__len_ : Stmt := (inClass (top 12) 6)
theorem sc_Tree__len_ : FnScope ["self"] ["self"] (defScope st_Tree__len_) := ⟨rfl, rfl, rfl, by decide +kernel, rfl, by decide +kernel, by decide +kernel⟩
def b_Tree__len_ : List SS := [.ret (.fn .len [.fld 20 (.var 0) "own_names"])]
noncomputable def r_Tree__len_ : List O → FRes := runD (phi []) b_Tree__len_ 1 1 [0]
theorem w_Tree__len_ {P : Program} {w : World} {K : PySem.W.Frag} {mg : Str → Option Value} {base : Heap} {cls : Nat → Addr} {dvs : List V} {kws : List (Str × V)} {f : Addr} {fd : FuncData} (F : FunD K "__len__" "Tree.__len__" (defArgs st_Tree__len_) (defBody st_Tree__len_) (defScope st_Tree__len_) dvs kws f fd) (h_f_Tree_own_names : Cls K (cls 20) ∧ NoAttr K (cls 20) "own_names") (h_b_len : mg "len" = none) : FnOk P w K mg base (L2.CX P w) 1 f fd ["self"] (spOf ⟨K, cls⟩ r_Tree__len_) :=
  fn_pv F sc_Tree__len_ fun cdv A outer s H E B pr hr => by
    have hu : (cxOf (L2.CX P w) P w K mg base ["self"] "Tree.__len__" (defScope st_Tree__len_) f cdv A outer s H E).A.units + 200 < cLine := room_hu hr
    have hu1 : (cxOf (L2.CX P w) P w K mg base ["self"] "Tree.__len__" (defScope st_Tree__len_) f cdv A outer s H E).A.units + 1 < cLine := by omega
    have nd := sc_Tree__len_.nd
    have tk : Takes (cxOf (L2.CX P w) P w K mg base ["self"] "Tree.__len__" (defScope st_Tree__len_) f cdv A outer s H E) (fun cls d _ H => E cls d H) := takes_of rfl rfl rfl rfl
    exact (st_cons (st_ret (s_fn (k := .len) rfl rfl rfl rfl rfl h_b_len (s_As1 (s_A (s_fld h_f_Tree_own_names rfl (s_varA (i := 0) rfl (.inl rfl) rfl rfl)) rfl) s_As0 rfl) rfl rfl)) st_nil)
abbrev st_Tree__contains_ : Stmt := (inClass (top 12) 7)
theorem sc_Tree__contains_ : FnScope ["self", "name"] ["self", "name"] (defScope st_Tree__contains_) := ⟨rfl, rfl, rfl, by decide +kernel, rfl, by decide +kernel, by decide +kernel⟩
def b_Tree__contains_ : List SS := [.ret (.cm .isin (.var 1) (.fld 20 (.var 0) "own_names"))]
noncomputable def r_Tree__contains_ : List O → FRes := runD (phi []) b_Tree__contains_ 2 2 [0, 1]
theorem w_Tree__contains_ {P : Program} {w : World} {K : PySem.W.Frag} {mg : Str → Option Value} {base : Heap} {cls : Nat → Addr} {dvs : List V} {kws : List (Str × V)} {f : Addr} {fd : FuncData} (F : FunD K "__contains__" "Tree.__contains__" (defArgs st_Tree__contains_) (defBody st_Tree__contains_) (defScope st_Tree__contains_) dvs kws f fd) (h_f_Tree_own_names : Cls K (cls 20) ∧ NoAttr K (cls 20) "own_names") : FnOk P w K mg base (L2.CX P w) 1 f fd ["self", "name"] (spOf ⟨K, cls⟩ r_Tree__contains_) :=
  fn_pv F sc_Tree__contains_ fun cdv A outer s H E B pr hr => by
    have hu : (cxOf (L2.CX P w) P w K mg base ["self", "name"] "Tree.__contains__" (defScope st_Tree__contains_) f cdv A outer s H E).A.units + 200 < cLine := room_hu hr
    have hu1 : (cxOf (L2.CX P w) P w K mg base ["self", "name"] "Tree.__contains__" (defScope st_Tree__contains_) f cdv A outer s H E).A.units + 1 < cLine := by omega
    have nd := sc_Tree__contains_.nd
    have tk : Takes (cxOf (L2.CX P w) P w K mg base ["self", "name"] "Tree.__contains__" (defScope st_Tree__contains_) f cdv A outer s H E) (fun cls d _ H => E cls d H) := takes_of rfl rfl rfl rfl
    exact (st_cons (st_ret (s_cm rfl (by exact hu) (k := .isin) (s_varA (i := 1) rfl (.inl rfl) rfl rfl) (s_A (s_fld h_f_Tree_own_names rfl (s_varA (i := 0) rfl (.inl rfl) rfl rfl)) rfl) rfl)) st_nil)
abbrev st_Tree__eq_ : Stmt := (inClass (top 12) 9)
theorem sc_Tree__eq_ : FnScope ["self", "other"] ["self", "other"] (defScope st_Tree__eq_) := ⟨rfl, rfl, rfl, by decide +kernel, rfl, by decide +kernel, by decide +kernel⟩
def b_Tree__eq_ : List SS := [.ret (.band [.isa [20] [.cls 20] (.var 1), .cm .eq (.fld 20 (.var 0) "own_shape") (.fld 20 (.var 1) "own_shape")])]
noncomputable def r_Tree__eq_ : List O → FRes := runD (phi []) b_Tree__eq_ 2 2 [0, 1]
theorem w_Tree__eq_ {P : Program} {w : World} {K : PySem.W.Frag} {mg : Str → Option Value} {base : Heap} {cls : Nat → Addr} {dvs : List V} {kws : List (Str × V)} {f : Addr} {fd : FuncData} (F : FunD K "__eq__" "Tree.__eq__" (defArgs st_Tree__eq_) (defBody st_Tree__eq_) (defScope st_Tree__eq_) dvs kws f fd) (h_isa : IsaT K ⟨K, cls⟩ [20]) (h_g_Tree : mg "Tree" = some (.ref (cls 20))) (h_b_isinstance : mg "isinstance" = none) (h_f_Tree_own_shape : Cls K (cls 20) ∧ NoAttr K (cls 20) "own_shape") : FnOk P w K mg base (L2.CX P w) 1 f fd ["self", "other"] (spOf ⟨K, cls⟩ r_Tree__eq_) :=
  fn_pv F sc_Tree__eq_ fun cdv A outer s H E B pr hr => by
    have hu : (cxOf (L2.CX P w) P w K mg base ["self", "other"] "Tree.__eq__" (defScope st_Tree__eq_) f cdv A outer s H E).A.units + 200 < cLine := room_hu hr
    have hu1 : (cxOf (L2.CX P w) P w K mg base ["self", "other"] "Tree.__eq__" (defScope st_Tree__eq_) f cdv A outer s H E).A.units + 1 < cLine := by omega
    have nd := sc_Tree__eq_.nd
    have tk : Takes (cxOf (L2.CX P w) P w K mg base ["self", "other"] "Tree.__eq__" (defScope st_Tree__eq_) f cdv A outer s H E) (fun cls d _ H => E cls d H) := takes_of rfl rfl rfl rfl
    exact (st_cons (st_ret (s_band (s_and (s_isa (t := .cls 20) rfl h_isa rfl rfl h_b_isinstance (s_varA (i := 1) rfl (.inl rfl) rfl rfl) (pe_glob rfl h_g_Tree rfl) rfl rfl rfl) (s_and1 (s_cm rfl (by exact hu) (k := .eq) (s_A (s_fld h_f_Tree_own_shape rfl (s_varA (i := 0) rfl (.inl rfl) rfl rfl)) rfl) (s_A (s_fld h_f_Tree_own_shape rfl (s_varA (i := 1) rfl (.inl rfl) rfl rfl)) rfl) rfl))))) st_nil)
abbrev st_Tree_need_name : Stmt := (inClass (top 12) 10)
theorem sc_Tree_need_name : FnScope ["self", "name"] ["self", "name"] (defScope st_Tree_need_name) := ⟨rfl, rfl, rfl, by decide +kernel, rfl, by decide +kernel, by decide +kernel⟩
def b_Tree_need_name : List SS := [.ite (.cm .notin (.var 1) (.fld 20 (.var 0) "own_names")) [.never] []]
noncomputable def r_Tree_need_name : List O → FRes := runD (phi []) b_Tree_need_name 2 2 [0, 1]
theorem w_Tree_need_name {P : Program} {w : World} {K : PySem.W.Frag} {mg : Str → Option Value} {base : Heap} {cls : Nat → Addr} {dvs : List V} {kws : List (Str × V)} {f : Addr} {fd : FuncData} (F : FunD K "need_name" "Tree.need_name" (defArgs st_Tree_need_name) (defBody st_Tree_need_name) (defScope st_Tree_need_name) dvs kws f fd) (h_f_Tree_own_names : Cls K (cls 20) ∧ NoAttr K (cls 20) "own_names") : FnOk P w K mg base (L2.CX P w) 1 f fd ["self", "name"] (spOf ⟨K, cls⟩ r_Tree_need_name) :=
  fn_pv F sc_Tree_need_name fun cdv A outer s H E B pr hr => by
    have hu : (cxOf (L2.CX P w) P w K mg base ["self", "name"] "Tree.need_name" (defScope st_Tree_need_name) f cdv A outer s H E).A.units + 200 < cLine := room_hu hr
    have hu1 : (cxOf (L2.CX P w) P w K mg base ["self", "name"] "Tree.need_name" (defScope st_Tree_need_name) f cdv A outer s H E).A.units + 1 < cLine := by omega
    have nd := sc_Tree_need_name.nd
    have tk : Takes (cxOf (L2.CX P w) P w K mg base ["self", "name"] "Tree.need_name" (defScope st_Tree_need_name) f cdv A outer s H E) (fun cls d _ H => E cls d H) := takes_of rfl rfl rfl rfl
    exact (st_cons (st_if (s_cmT rfl (by exact hu) (k := .notin) (s_varA (i := 1) rfl (.inl rfl) rfl rfl) (s_A (s_fld h_f_Tree_own_names rfl (s_varA (i := 0) rfl (.inl rfl) rfl rfl)) rfl) rfl) (st_cons st_never st_nil) st_nil) st_nil)
abbrev st_Tree_parent : Stmt := (inClass (top 12) 11)
theorem sc_Tree_parent : FnScope ["self", "name"] ["self", "name"] (defScope st_Tree_parent) := ⟨rfl, rfl, rfl, by decide +kernel, rfl, by decide +kernel, by decide +kernel⟩
def b_Tree_parent : List SS := [.exp (.meth 20 "need_name" 14 (.var 0) [.var 1] (idg 2)), .ret (.idx (.fld 20 (.var 0) "above") (.var 1))]
noncomputable def r_Tree_parent : List O → FRes := runD (phi [(14, r_Tree_need_name)]) b_Tree_parent 2 2 [0, 1]
theorem w_Tree_parent {P : Program} {w : World} {K : PySem.W.Frag} {mg : Str → Option Value} {base : Heap} {cls : Nat → Addr} {dvs : List V} {kws : List (Str × V)} {f : Addr} {fd : FuncData} (F : FunD K "parent" "Tree.parent" (defArgs st_Tree_parent) (defBody st_Tree_parent) (defScope st_Tree_parent) dvs kws f fd) (h_d_Tree_need_name : CMeth P w K mg base ⟨K, cls⟩ 20 "need_name" ["self", "name"] 1 r_Tree_need_name) (h_f_Tree_above : Cls K (cls 20) ∧ NoAttr K (cls 20) "above") : FnOk P w K mg base (L2.CX P w) 2 f fd ["self", "name"] (spOf ⟨K, cls⟩ r_Tree_parent) :=
  fn_pv F sc_Tree_parent fun cdv A outer s H E B pr hr => by
    have hu : (cxOf (L2.CX P w) P w K mg base ["self", "name"] "Tree.parent" (defScope st_Tree_parent) f cdv A outer s H E).A.units + 200 < cLine := room_hu hr
    have hu1 : (cxOf (L2.CX P w) P w K mg base ["self", "name"] "Tree.parent" (defScope st_Tree_parent) f cdv A outer s H E).A.units + 1 < cLine := by omega
    have nd := sc_Tree_parent.nd
    have tk : Takes (cxOf (L2.CX P w) P w K mg base ["self", "name"] "Tree.parent" (defScope st_Tree_parent) f cdv A outer s H E) (fun cls d _ H => E cls d H) := takes_of rfl rfl rfl rfl
    exact (st_cons (st_exp (s_methC (sp := [.var 1]) h_d_Tree_need_name rfl (by exact hr) (by first | exact Nat.le_refl _ | omega) rfl tk (s_varA (i := 0) rfl (.inl rfl) rfl rfl) (s_As1 (s_varA (i := 1) rfl (.inl rfl) rfl rfl) s_As0 rfl) (by intro z; cases z) rfl rfl rfl) rfl) (st_cons (st_ret (s_idx rfl (by exact hu) (s_A (s_fld h_f_Tree_above rfl (s_varA (i := 0) rfl (.inl rfl) rfl rfl)) rfl) (s_varA (i := 1) rfl (.inl rfl) rfl rfl) (fun _ _ => rfl))) st_nil))
abbrev st_Tree_children : Stmt := (inClass (top 12) 12)
theorem sc_Tree_children : FnScope ["self", "name", "one"] ["self", "name"] (defScope st_Tree_children) := ⟨rfl, rfl, rfl, by decide +kernel, rfl, by decide +kernel, by decide +kernel⟩
def b_Tree_children : List SS := [.exp (.meth 20 "need_name" 14 (.var 0) [.var 1] (idg 2)), .ret (.comp .lst (.var 2) [2] (.nm 2) (.of (.fld 20 (.var 0) "own_names")) [.cm .eq (.idx (.fld 20 (.var 0) "above") (.var 2)) (.var 1)])]
noncomputable def r_Tree_children : List O → FRes := runD (phi [(14, r_Tree_need_name)]) b_Tree_children 2 3 [0, 1]
theorem w_Tree_children {P : Program} {w : World} {K : PySem.W.Frag} {mg : Str → Option Value} {base : Heap} {cls : Nat → Addr} {dvs : List V} {kws : List (Str × V)} {f : Addr} {fd : FuncData} (F : FunD K "children" "Tree.children" (defArgs st_Tree_children) (defBody st_Tree_children) (defScope st_Tree_children) dvs kws f fd) (h_d_Tree_need_name : CMeth P w K mg base ⟨K, cls⟩ 20 "need_name" ["self", "name"] 1 r_Tree_need_name) (h_f_Tree_own_names : Cls K (cls 20) ∧ NoAttr K (cls 20) "own_names") (h_f_Tree_above : Cls K (cls 20) ∧ NoAttr K (cls 20) "above") : FnOk P w K mg base (L2.CX P w) 2 f fd ["self", "name"] (spOf ⟨K, cls⟩ r_Tree_children) :=
  fn_pv F sc_Tree_children fun cdv A outer s H E B pr hr => by
    have hu : (cxOf (L2.CX P w) P w K mg base ["self", "name", "one"] "Tree.children" (defScope st_Tree_children) f cdv A outer s H E).A.units + 200 < cLine := room_hu hr
    have hu1 : (cxOf (L2.CX P w) P w K mg base ["self", "name", "one"] "Tree.children" (defScope st_Tree_children) f cdv A outer s H E).A.units + 1 < cLine := by omega
    have nd := sc_Tree_children.nd
    have tk : Takes (cxOf (L2.CX P w) P w K mg base ["self", "name", "one"] "Tree.children" (defScope st_Tree_children) f cdv A outer s H E) (fun cls d _ H => E cls d H) := takes_of rfl rfl rfl rfl
    exact (st_cons (st_exp (s_methC (sp := [.var 1]) h_d_Tree_need_name rfl (by exact hr) (by first | exact Nat.le_refl _ | omega) rfl tk (s_varA (i := 0) rfl (.inr (.inl rfl)) rfl rfl) (s_As1 (s_varA (i := 1) rfl (.inr (.inl rfl)) rfl rfl) s_As0 rfl) (by intro z; cases z) rfl rfl rfl) rfl) (st_cons (st_ret (s_compP pr rfl nd (own := [("one", 2)]) (se := .var 2) (t := .nm 2) (ie := .of (.fld 20 (.var 0) "own_names")) (sifs := [.cm .eq (.idx (.fld 20 (.var 0) "above") (.var 2)) (.var 1)]) (by decide) rfl (by decide) (i_of rfl (s_A (s_fld h_f_Tree_own_names rfl (s_varA (i := 0) rfl (.inr (.inl rfl)) rfl rfl)) rfl)) (blkOk_by (N := ["self", "name", "one"]) (sc := defScope st_Tree_children) (by decide +kernel)) (fun s H C cl fp => (s_tgN (i := 2) nd rfl (.inl rfl) (.inr rfl) (pr.ne rfl))) (fun s H C cl fp => (s_ts1 (s_cmT rfl (by exact hu) (k := .eq) (s_A (s_idx rfl (by exact hu) (s_A (s_fld h_f_Tree_above rfl (s_varA (i := 0) rfl (.inr (.inl rfl)) rfl rfl)) rfl) (s_varA (i := 2) rfl (.inl rfl) rfl rfl) (fun _ _ => rfl)) rfl) (s_varA (i := 1) rfl (.inr (.inl rfl)) rfl rfl) rfl))) (fun s H C cl fp => (s_var (i := 2) rfl (.inl rfl) rfl rfl)) (fun _ => rfl))) st_nil))
abbrev st_Tree_roots : Stmt := (inClass (top 12) 13)
theorem sc_Tree_roots : FnScope ["self", "one"] ["self"] (defScope st_Tree_roots) := ⟨rfl, rfl, rfl, by decide +kernel, rfl, by decide +kernel, by decide +kernel⟩
def b_Tree_roots : List SS := [.ret (.comp .lst (.var 1) [1] (.nm 1) (.of (.fld 20 (.var 0) "own_names")) [.cm .is (.idx (.fld 20 (.var 0) "above") (.var 1)) (.lit .non)])]
noncomputable def r_Tree_roots : List O → FRes := runD (phi []) b_Tree_roots 1 2 [0]
theorem w_Tree_roots {P : Program} {w : World} {K : PySem.W.Frag} {mg : Str → Option Value} {base : Heap} {cls : Nat → Addr} {dvs : List V} {kws : List (Str × V)} {f : Addr} {fd : FuncData} (F : FunD K "roots" "Tree.roots" (defArgs st_Tree_roots) (defBody st_Tree_roots) (defScope st_Tree_roots) dvs kws f fd) (h_f_Tree_own_names : Cls K (cls 20) ∧ NoAttr K (cls 20) "own_names") (h_f_Tree_above : Cls K (cls 20) ∧ NoAttr K (cls 20) "above") : FnOk P w K mg base (L2.CX P w) 1 f fd ["self"] (spOf ⟨K, cls⟩ r_Tree_roots) :=
  fn_pv F sc_Tree_roots fun cdv A outer s H E B pr hr => by
    have hu : (cxOf (L2.CX P w) P w K mg base ["self", "one"] "Tree.roots" (defScope st_Tree_roots) f cdv A outer s H E).A.units + 200 < cLine := room_hu hr
    have hu1 : (cxOf (L2.CX P w) P w K mg base ["self", "one"] "Tree.roots" (defScope st_Tree_roots) f cdv A outer s H E).A.units + 1 < cLine := by omega
    have nd := sc_Tree_roots.nd
    have tk : Takes (cxOf (L2.CX P w) P w K mg base ["self", "one"] "Tree.roots" (defScope st_Tree_roots) f cdv A outer s H E) (fun cls d _ H => E cls d H) := takes_of rfl rfl rfl rfl
    exact (st_cons (st_ret (s_compP pr rfl nd (own := [("one", 1)]) (se := .var 1) (t := .nm 1) (ie := .of (.fld 20 (.var 0) "own_names")) (sifs := [.cm .is (.idx (.fld 20 (.var 0) "above") (.var 1)) (.lit .non)]) (by decide) rfl (by decide) (i_of rfl (s_A (s_fld h_f_Tree_own_names rfl (s_varA (i := 0) rfl (.inr (.inl rfl)) rfl rfl)) rfl)) (blkOk_by (N := ["self", "one"]) (sc := defScope st_Tree_roots) (by decide +kernel)) (fun s H C cl fp => (s_tgN (i := 1) nd rfl (.inl rfl) (.inr rfl) (pr.ne rfl))) (fun s H C cl fp => (s_ts1 (s_cmT rfl (by exact hu) (k := .is) (s_A (s_idx rfl (by exact hu) (s_A (s_fld h_f_Tree_above rfl (s_varA (i := 0) rfl (.inr (.inl rfl)) rfl rfl)) rfl) (s_varA (i := 1) rfl (.inl rfl) rfl rfl) (fun _ _ => rfl)) rfl) (s_A (s_C pe_non (by intro _ _; exact rfl)) rfl) rfl))) (fun s H C cl fp => (s_var (i := 1) rfl (.inl rfl) rfl rfl)) (fun _ => rfl))) st_nil)
abbrev st_l_lists_right : Stmt := (top 24)
theorem sc_l_lists_right : FnScope ["_law_tree", "_law_above", "_law_name_here", "_law_due", "_law_turn", "_law_told", "_law_one"] ["_law_tree", "_law_above"] (defScope st_l_lists_right) := ⟨rfl, rfl, rfl, by decide +kernel, rfl, by decide +kernel, by decide +kernel⟩
def b_l_lists_right : List SS := [.for (.nm 2) (.of (.bi .add (.lst [.lit .non]) (.fn .list [.var 1]))) [.lck 1 (.asg (.nm 3) (.comp .lst (.var 6) [6] (.nm 6) (.keys 1) [.cm .eq (.idx (.var 1) (.var 6)) (.var 2)])), .for (.nm 4) (.range [.lit (.int 2)]) [.asg (.nm 5) (.ite (.cm .is (.var 2) (.lit .non)) (.meth 20 "roots" 17 (.var 0) [] (idg 1)) (.meth 20 "children" 16 (.var 0) [.var 2] (idg 2))), .ite (.bor [.bnot (.isa [20] [.list] (.var 5)), .cm .ne (.var 5) (.var 3)]) [.ret (.lit (.bl false))] [], .exp (.mu .append 5 [] [.lit (.str "zz")])]], .ret (.lit (.bl true))]
noncomputable def r_l_lists_right : List O → FRes := runD (phi [(16, r_Tree_children), (17, r_Tree_roots)]) b_l_lists_right 2 7 [0, 1]
theorem w_l_lists_right {P : Program} {w : World} {K : PySem.W.Frag} {mg : Str → Option Value} {base : Heap} {cls : Nat → Addr} {dvs : List V} {kws : List (Str × V)} {f : Addr} {fd : FuncData} (F : FunD K "_law_lists_right" "_law_lists_right" (defArgs st_l_lists_right) (defBody st_l_lists_right) (defScope st_l_lists_right) dvs kws f fd) (h_b_list : mg "list" = none) (h_b_range : mg "range" = none) (h_d_Tree_roots : CMeth P w K mg base ⟨K, cls⟩ 20 "roots" ["self"] 1 r_Tree_roots) (h_d_Tree_children : CMeth P w K mg base ⟨K, cls⟩ 20 "children" ["self", "name"] 2 r_Tree_children) (h_isa : IsaT K ⟨K, cls⟩ [20]) (h_b_isinstance : mg "isinstance" = none) : FnOk P w K mg base (L2.CX P w) 3 f fd ["_law_tree", "_law_above"] (spOf ⟨K, cls⟩ r_l_lists_right) :=
  fn_pv F sc_l_lists_right fun cdv A outer s H E B pr hr => by
    have hu : (cxOf (L2.CX P w) P w K mg base ["_law_tree", "_law_above", "_law_name_here", "_law_due", "_law_turn", "_law_told", "_law_one"] "_law_lists_right" (defScope st_l_lists_right) f cdv A outer s H E).A.units + 200 < cLine := room_hu hr
    have hu1 : (cxOf (L2.CX P w) P w K mg base ["_law_tree", "_law_above", "_law_name_here", "_law_due", "_law_turn", "_law_told", "_law_one"] "_law_lists_right" (defScope st_l_lists_right) f cdv A outer s H E).A.units + 1 < cLine := by omega
    have nd := sc_l_lists_right.nd
    have tk : Takes (cxOf (L2.CX P w) P w K mg base ["_law_tree", "_law_above", "_law_name_here", "_law_due", "_law_turn", "_law_told", "_law_one"] "_law_lists_right" (defScope st_l_lists_right) f cdv A outer s H E) (fun cls d _ H => E cls d H) := takes_of rfl rfl rfl rfl
    exact (st_cons (st_forP pr (passes_of rfl) rfl (i_of rfl (s_A (s_bi rfl (k := .add) (s_A (s_lst (hz_of (by decide)) (s_L1 (s_C pe_non (by intro _ _; exact rfl)) s_L0 rfl)) rfl) (s_A (s_fn (k := .list) rfl rfl rfl rfl rfl h_b_list (s_As1 (s_varA (i := 1) rfl (.inr (.inl rfl)) rfl rfl) s_As0 rfl) rfl rfl) rfl)) rfl)) (fun B pr => (s_tgN (i := 2) nd rfl (.inr rfl) (.inl rfl) (pr.ne rfl))) (fun B pr => (st_cons (st_lck (i := 1) pr (fun B pr lk => (st_asgLcP pr (i := 3) (own := [("_law_one", 6)]) (se := .var 6) (t := .nm 6) (ie := .keys 1) (sifs := [.cm .eq (.idx (.var 1) (.var 6)) (.var 2)]) rfl nd rfl rfl rfl (sw_true rfl rfl rfl (by decide +kernel)) (by decide) rfl (by decide) (i_keys (i := 1) lk rfl (.inr (.inl rfl)) rfl rfl) (blkOk_by (N := ["_law_tree", "_law_above", "_law_name_here", "_law_due", "_law_turn", "_law_told", "_law_one"]) (sc := defScope st_l_lists_right) (by decide +kernel)) (fun s H C cl fp => (s_tgN (i := 6) nd rfl (.inl rfl) (.inr rfl) (pr.ne rfl))) (fun s H C cl fp => (s_ts1 (s_cmT rfl (by exact hu) (k := .eq) (s_A (s_idx rfl (by exact hu) (s_varA (i := 1) rfl (.inr (.inl rfl)) rfl rfl) (s_varA (i := 6) rfl (.inl rfl) rfl rfl) (fun _ _ => rfl)) rfl) (s_varA (i := 2) rfl (.inr (.inl rfl)) rfl rfl) rfl))) (fun s H C cl fp => (s_var (i := 6) rfl (.inl rfl) rfl rfl)) (fun _ => rfl)))) (st_cons (st_forP pr (passes_of rfl) rfl (i_range1 rfl h_b_range (s_L1 (s_C pe_int (by intro _ _; exact rfl)) s_L0 rfl) rfl) (fun B pr => (s_tgN (i := 4) nd rfl (.inl rfl) (.inl rfl) (pr.ne rfl))) (fun B pr => (st_cons (st_asg (s_ite (s_cmT rfl (by exact hu) (k := .is) (s_varA (i := 2) rfl (.inr (.inl rfl)) rfl rfl) (s_A (s_C pe_non (by intro _ _; exact rfl)) rfl) rfl) (s_methC (sp := []) h_d_Tree_roots rfl (by exact hr) (by first | exact Nat.le_refl _ | omega) rfl tk (s_varA (i := 0) rfl (.inl rfl) rfl rfl) s_As0 (fun _ => rfl) trivial rfl rfl) (s_methC (sp := [.var 2]) h_d_Tree_children rfl (by exact hr) (by first | exact Nat.le_refl _ | omega) rfl tk (s_varA (i := 0) rfl (.inl rfl) rfl rfl) (s_As1 (s_varA (i := 2) rfl (.inr (.inl rfl)) rfl rfl) s_As0 rfl) (by intro z; cases z) rfl rfl rfl)) (o_tgN (i := 5) nd rfl (.inl rfl) (.inl rfl) (pr.ne rfl)) rfl rfl rfl) (st_cons (st_if (s_borT (s_orT (s_notT (s_T rfl (s_A (s_isa (t := .list) rfl h_isa rfl rfl h_b_isinstance (s_varA (i := 5) rfl (.inl rfl) rfl rfl) (pe_bltn rfl h_b_list (by decide +kernel) rfl) rfl rfl rfl) rfl) rfl rfl)) (s_orT1 (s_cmT rfl (by exact hu) (k := .ne) (s_varA (i := 5) rfl (.inl rfl) rfl rfl) (s_varA (i := 3) rfl (.inl rfl) rfl rfl) rfl)))) (st_cons (st_ret (s_C pe_bl (by intro _ _; exact rfl))) st_nil) st_nil) (st_cons (st_exp (s_mu rfl PySem.F.slot_list_append PySem.F.type_list_append m_append (s_rc0 rfl (.inl rfl) rfl rfl) (fun B e => by have pr := PrIn.eq pr e; exact (s_L1 (s_C pe_str (by intro _ _; exact rfl)) s_L0 rfl)) rfl rfl rfl rfl rfl) rfl) st_nil)))) (fun _ => rfl)) st_nil))) (fun _ => rfl)) (st_cons (st_ret (s_C pe_bl (by intro _ _; exact rfl))) st_nil))
abbrev st_l_values_right : Stmt := (top 25)
theorem sc_l_values_right : FnScope ["_law_tree", "_law_walk_here", "_law_above", "_law_names_here", "_law_figure", "_law_odd", "_law_name_here", "_law_one"] ["_law_tree", "_law_walk_here", "_law_above"] (defScope st_l_values_right) := ⟨rfl, rfl, rfl, by decide +kernel, rfl, by decide +kernel, by decide +kernel⟩
def b_l_values_right : List SS := [.asg (.tp [.nm 3, .nm 4]) (.tup [.fn .list [.var 2], .call 28 [.var 1]]), .ite (.cm .ne (.tup [.prop 20 "shape" 7 (.var 0), .prop 20 "walk" 8 (.var 0), .prop 20 "names" 9 (.var 0)]) (.tup [.var 4, .fn .tuple [.var 1], .fn .tuple [.var 3]])) [.ret (.lit (.bl false))] [], .ite (.cm .ne (.dlen 20 10 (.var 0)) (.fn .len [.var 3])) [.ret (.lit (.bl false))] [], .ite (.cm .isin (.lit (.bl false)) (.comp .lst (.din false 20 11 (.var 6) (.var 0)) [6] (.nm 6) (.of (.var 3)) [])) [.ret (.lit (.bl false))] [], .ite (.cm .isin (.lit (.bl false)) (.comp .lst (.cm .eq (.meth 20 "parent" 15 (.var 0) [.var 6] (idg 2)) (.idx (.var 2) (.var 6))) [6] (.nm 6) (.of (.var 3)) [])) [.ret (.lit (.bl false))] [], .asg (.nm 5) (.bi .add (.lst [.lit (.str "Zz"), .lit (.str ""), .lit .non, .lit (.int 3), .lit (.bl true), .lst [.lit (.str "a")], .tup [.lit (.str "a"), .lit (.int 0)], .dct (flatS [(.lit (.str "a"), .lit (.int 1))]), .var 4]) (.comp .lst (.bi .add (.var 6) (.lit (.str "aaaaaaaa"))) [6] (.nm 6) (.of (.var 3)) [])), .ret (.cm .notin (.lit (.bl true)) (.comp .lst (.din false 20 11 (.var 7) (.var 0)) [7] (.nm 7) (.of (.var 5)) []))]
noncomputable def r_l_values_right : List O → FRes := runD (phi [(7, r_Tree_shape), (8, r_Tree_walk), (9, r_Tree_names), (10, r_Tree__len_), (11, r_Tree__contains_), (15, r_Tree_parent), (28, r_l_shape)]) b_l_values_right 3 8 [0, 1, 2]
theorem w_l_values_right {P : Program} {w : World} {K : PySem.W.Frag} {mg : Str → Option Value} {base : Heap} {cls : Nat → Addr} {dvs : List V} {kws : List (Str × V)} {f : Addr} {fd : FuncData} (F : FunD K "_law_values_right" "_law_values_right" (defArgs st_l_values_right) (defBody st_l_values_right) (defScope st_l_values_right) dvs kws f fd) (h_b_list : mg "list" = none) (h_d__law_shape : Callee P w K mg base ⟨K, cls⟩ "_law_shape" ["_law_walk_here"] 1 r_l_shape) (h_d_Tree_shape : CProp P w K mg base ⟨K, cls⟩ 20 "shape" ["self"] 1 r_Tree_shape) (h_d_Tree_walk : CProp P w K mg base ⟨K, cls⟩ 20 "walk" ["self"] 1 r_Tree_walk) (h_d_Tree_names : CProp P w K mg base ⟨K, cls⟩ 20 "names" ["self"] 1 r_Tree_names) (h_b_tuple : mg "tuple" = none) (h_d_Tree_len : CMeth P w K mg base ⟨K, cls⟩ 20 "__len__" ["self"] 1 r_Tree__len_) (h_b_len : mg "len" = none) (h_d_Tree_contains : CMeth P w K mg base ⟨K, cls⟩ 20 "__contains__" ["self", "name"] 1 r_Tree__contains_) (h_d_Tree_parent : CMeth P w K mg base ⟨K, cls⟩ 20 "parent" ["self", "name"] 2 r_Tree_parent) : FnOk P w K mg base (L2.CX P w) 3 f fd ["_law_tree", "_law_walk_here", "_law_above"] (spOf ⟨K, cls⟩ r_l_values_right) :=
  fn_pv F sc_l_values_right fun cdv A outer s H E B pr hr => by
    have hu : (cxOf (L2.CX P w) P w K mg base ["_law_tree", "_law_walk_here", "_law_above", "_law_names_here", "_law_figure", "_law_odd", "_law_name_here", "_law_one"] "_law_values_right" (defScope st_l_values_right) f cdv A outer s H E).A.units + 200 < cLine := room_hu hr
    have hu1 : (cxOf (L2.CX P w) P w K mg base ["_law_tree", "_law_walk_here", "_law_above", "_law_names_here", "_law_figure", "_law_odd", "_law_name_here", "_law_one"] "_law_values_right" (defScope st_l_values_right) f cdv A outer s H E).A.units + 1 < cLine := by omega
    have nd := sc_l_values_right.nd
    have tk : Takes (cxOf (L2.CX P w) P w K mg base ["_law_tree", "_law_walk_here", "_law_above", "_law_names_here", "_law_figure", "_law_odd", "_law_name_here", "_law_one"] "_law_values_right" (defScope st_l_values_right) f cdv A outer s H E) (fun cls d _ H => E cls d H) := takes_of rfl rfl rfl rfl
    exact (st_cons (st_par2 (i := 3) (j := 4) rfl nd rfl rfl (by decide) rfl rfl (pr.ne rfl) (pr.ne rfl) (s_L1 (s_fn (k := .list) rfl rfl rfl rfl rfl h_b_list (s_As1 (s_varA (i := 2) rfl (.inr (.inl rfl)) rfl rfl) s_As0 rfl) rfl rfl) (s_L1 (s_callC h_d__law_shape rfl (by exact hr) (by first | exact Nat.le_refl _ | omega) rfl tk (s_As1 (s_varA (i := 1) rfl (.inl rfl) rfl rfl) s_As0 rfl) rfl rfl rfl) s_L0 rfl) rfl) rfl rfl) (st_cons (st_if (s_cmT rfl (by exact hu) (k := .ne) (s_A (s_tup (hz_of (by decide)) (s_L1 (s_propC h_d_Tree_shape rfl (by exact hr) (by first | exact Nat.le_refl _ | omega) (s_varA (i := 0) rfl (.inr (.inl rfl)) rfl rfl) rfl) (s_L1 (s_propC h_d_Tree_walk rfl (by exact hr) (by first | exact Nat.le_refl _ | omega) (s_varA (i := 0) rfl (.inr (.inl rfl)) rfl rfl) rfl) (s_L1 (s_propC h_d_Tree_names rfl (by exact hr) (by first | exact Nat.le_refl _ | omega) (s_varA (i := 0) rfl (.inr (.inl rfl)) rfl rfl) rfl) s_L0 rfl) rfl) rfl)) rfl) (s_A (s_tup (hz_of (by decide)) (s_L1 (s_var (i := 4) rfl (.inl rfl) rfl rfl) (s_L1 (s_fn (k := .tuple) rfl rfl rfl rfl rfl h_b_tuple (s_As1 (s_varA (i := 1) rfl (.inl rfl) rfl rfl) s_As0 rfl) rfl rfl) (s_L1 (s_fn (k := .tuple) rfl rfl rfl rfl rfl h_b_tuple (s_As1 (s_varA (i := 3) rfl (.inl rfl) rfl rfl) s_As0 rfl) rfl rfl) s_L0 rfl) rfl) rfl)) rfl) rfl) (st_cons (st_ret (s_C pe_bl (by intro _ _; exact rfl))) st_nil) st_nil) (st_cons (st_if (s_cmT rfl (by exact hu) (k := .ne) (s_A (s_dlenC h_d_Tree_len rfl (by exact hr) (by first | exact Nat.le_refl _ | omega) rfl h_b_len (s_varA (i := 0) rfl (.inr (.inl rfl)) rfl rfl) rfl rfl) rfl) (s_A (s_fn (k := .len) rfl rfl rfl rfl rfl h_b_len (s_As1 (s_varA (i := 3) rfl (.inl rfl) rfl rfl) s_As0 rfl) rfl rfl) rfl) rfl) (st_cons (st_ret (s_C pe_bl (by intro _ _; exact rfl))) st_nil) st_nil) (st_cons (st_if (s_cmT rfl (by exact hu) (k := .isin) (s_A (s_C pe_bl (by intro _ _; exact rfl)) rfl) (s_A (s_compP pr rfl nd (own := [("_law_name_here", 6)]) (se := .din false 20 11 (.var 6) (.var 0)) (t := .nm 6) (ie := .of (.var 3)) (sifs := []) (by decide) rfl (by decide) (i_of rfl (s_varA (i := 3) rfl (.inl rfl) rfl rfl)) (blkOk_by (N := ["_law_tree", "_law_walk_here", "_law_above", "_law_names_here", "_law_figure", "_law_odd", "_law_name_here", "_law_one"]) (sc := defScope st_l_values_right) (by decide +kernel)) (fun s H C cl fp => (s_tgN (i := 6) nd rfl (.inl rfl) (.inr rfl) (pr.ne rfl))) (fun s H C cl fp => s_ts0) (fun s H C cl fp => (s_cv (s_dinC false h_d_Tree_contains rfl (by exact hr) (by first | exact Nat.le_refl _ | omega) (s_varA (i := 6) rfl (.inl rfl) rfl rfl) (s_varA (i := 0) rfl (.inr (.inl rfl)) rfl rfl)) rfl)) (fun _ => rfl)) rfl) rfl) (st_cons (st_ret (s_C pe_bl (by intro _ _; exact rfl))) st_nil) st_nil) (st_cons (st_if (s_cmT rfl (by exact hu) (k := .isin) (s_A (s_C pe_bl (by intro _ _; exact rfl)) rfl) (s_A (s_compP pr rfl nd (own := [("_law_name_here", 6)]) (se := .cm .eq (.meth 20 "parent" 15 (.var 0) [.var 6] (idg 2)) (.idx (.var 2) (.var 6))) (t := .nm 6) (ie := .of (.var 3)) (sifs := []) (by decide) rfl (by decide) (i_of rfl (s_varA (i := 3) rfl (.inl rfl) rfl rfl)) (blkOk_by (N := ["_law_tree", "_law_walk_here", "_law_above", "_law_names_here", "_law_figure", "_law_odd", "_law_name_here", "_law_one"]) (sc := defScope st_l_values_right) (by decide +kernel)) (fun s H C cl fp => (s_tgN (i := 6) nd rfl (.inl rfl) (.inr rfl) (pr.ne rfl))) (fun s H C cl fp => s_ts0) (fun s H C cl fp => (s_cm rfl (by exact hu) (k := .eq) (s_A (s_methC (sp := [.var 6]) h_d_Tree_parent rfl (by exact hr) (by first | exact Nat.le_refl _ | omega) rfl takesF (s_varA (i := 0) rfl (.inr (.inl rfl)) rfl rfl) (s_As1 (s_varA (i := 6) rfl (.inl rfl) rfl rfl) s_As0 rfl) (by intro z; cases z) rfl rfl rfl) rfl) (s_A (s_idx rfl (by exact hu) (s_varA (i := 2) rfl (.inr (.inl rfl)) rfl rfl) (s_varA (i := 6) rfl (.inl rfl) rfl rfl) (fun _ _ => rfl)) rfl) rfl)) (fun _ => rfl)) rfl) rfl) (st_cons (st_ret (s_C pe_bl (by intro _ _; exact rfl))) st_nil) st_nil) (st_cons (st_asg (s_bi rfl (k := .add) (s_A (s_lst (hz_of (by decide)) (s_L1 (s_C pe_str (by intro _ _; exact rfl)) (s_L1 (s_C pe_str (by intro _ _; exact rfl)) (s_L1 (s_C pe_non (by intro _ _; exact rfl)) (s_L1 (s_C pe_int (by intro _ _; exact rfl)) (s_L1 (s_C pe_bl (by intro _ _; exact rfl)) (s_L1 (s_lst (hz_of (by decide)) (s_L1 (s_C pe_str (by intro _ _; exact rfl)) s_L0 rfl)) (s_L1 (s_tup (hz_of (by decide)) (s_L1 (s_C pe_str (by intro _ _; exact rfl)) (s_L1 (s_C pe_int (by intro _ _; exact rfl)) s_L0 rfl) rfl)) (s_L1 (s_dct (kvs := [(.lit (.str "a"), .lit (.int 1))]) (fun B e => by have pr := PrIn.eq pr e; exact (pps_cons (s_C pe_str (by intro _ _; exact rfl)) (s_C pe_int (by intro _ _; exact rfl)) pps_nil)) rfl rfl (by simp) (by decide)) (s_L1 (s_var (i := 4) rfl (.inl rfl) rfl rfl) s_L0 rfl) rfl) rfl) rfl) rfl) rfl) rfl) rfl) rfl)) rfl) (s_A (s_compP pr rfl nd (own := [("_law_name_here", 6)]) (se := .bi .add (.var 6) (.lit (.str "aaaaaaaa"))) (t := .nm 6) (ie := .of (.var 3)) (sifs := []) (by decide) rfl (by decide) (i_of rfl (s_varA (i := 3) rfl (.inl rfl) rfl rfl)) (blkOk_by (N := ["_law_tree", "_law_walk_here", "_law_above", "_law_names_here", "_law_figure", "_law_odd", "_law_name_here", "_law_one"]) (sc := defScope st_l_values_right) (by decide +kernel)) (fun s H C cl fp => (s_tgN (i := 6) nd rfl (.inl rfl) (.inr rfl) (pr.ne rfl))) (fun s H C cl fp => s_ts0) (fun s H C cl fp => (s_bi rfl (k := .add) (s_varA (i := 6) rfl (.inl rfl) rfl rfl) (s_A (s_C pe_str (by intro _ _; exact rfl)) rfl))) (fun _ => rfl)) rfl)) (o_tgN (i := 5) nd rfl (.inl rfl) (.inl rfl) (pr.ne rfl)) rfl rfl rfl) (st_cons (st_ret (s_cm rfl (by exact hu) (k := .notin) (s_A (s_C pe_bl (by intro _ _; exact rfl)) rfl) (s_A (s_compP pr rfl nd (own := [("_law_one", 7)]) (se := .din false 20 11 (.var 7) (.var 0)) (t := .nm 7) (ie := .of (.var 5)) (sifs := []) (by decide) rfl (by decide) (i_of rfl (s_varA (i := 5) rfl (.inl rfl) rfl rfl)) (blkOk_by (N := ["_law_tree", "_law_walk_here", "_law_above", "_law_names_here", "_law_figure", "_law_odd", "_law_name_here", "_law_one"]) (sc := defScope st_l_values_right) (by decide +kernel)) (fun s H C cl fp => (s_tgN (i := 7) nd rfl (.inl rfl) (.inr rfl) (pr.ne rfl))) (fun s H C cl fp => s_ts0) (fun s H C cl fp => (s_cv (s_dinC false h_d_Tree_contains rfl (by exact hr) (by first | exact Nat.le_refl _ | omega) (s_varA (i := 7) rfl (.inl rfl) rfl rfl) (s_varA (i := 0) rfl (.inr (.inl rfl)) rfl rfl)) rfl)) (fun _ => rfl)) rfl) rfl)) st_nil)))))))
abbrev st_l_equal_right : Stmt := (top 26)
theorem sc_l_equal_right : FnScope ["_law_tree", "_law_figure", "_law_other", "_law_one"] ["_law_tree", "_law_figure", "_law_other"] (defScope st_l_equal_right) := ⟨rfl, rfl, rfl, by decide +kernel, rfl, by decide +kernel, by decide +kernel⟩
def b_l_equal_right : List SS := [.ite (.bor [.deq true 20 13 (.var 0) (.make 20 5 ([.var 1] ++ []) (.inl 0 :: [.inl 1])), .cm .ne (.deq false 20 13 (.var 0) (.make 20 5 ([.var 2] ++ []) (.inl 0 :: [.inl 1]))) (.cm .eq (.var 1) (.var 2))]) [.ret (.lit (.bl false))] [], .ret (.cm .notin (.lit (.bl true)) (.comp .lst (.deq false 20 13 (.var 0) (.var 3)) [3] (.nm 3) (.of (.lst [.var 1, .prop 20 "walk" 8 (.var 0), .prop 20 "names" 9 (.var 0), .lit .non, .lit (.int 0), .lit (.str "a"), .fn .list [.prop 20 "names" 9 (.var 0)]])) []))]
noncomputable def r_l_equal_right : List O → FRes := runD (phi [(5, r_Tree__init_), (8, r_Tree_walk), (9, r_Tree_names), (13, r_Tree__eq_)]) b_l_equal_right 3 4 [0, 1, 2]
theorem w_l_equal_right {P : Program} {w : World} {K : PySem.W.Frag} {mg : Str → Option Value} {base : Heap} {cls : Nat → Addr} {dvs : List V} {kws : List (Str × V)} {f : Addr} {fd : FuncData} (F : FunD K "_law_equal_right" "_law_equal_right" (defArgs st_l_equal_right) (defBody st_l_equal_right) (defScope st_l_equal_right) dvs kws f fd) (h_d_Tree_eq : CMeth P w K mg base ⟨K, cls⟩ 20 "__eq__" ["self", "other"] 1 r_Tree__eq_) (h_eq_Tree : CEq K ⟨K, cls⟩ 20) (h_d_Tree_init : CMeth P w K mg base ⟨K, cls⟩ 20 "__init__" ["self", "shape"] 41 r_Tree__init_) (h_mk_Tree_1_ : CMake P w K mg base ⟨K, cls⟩ 20 "Tree" 41 r_Tree__init_ 1 [] [.inl 1]) (h_d_Tree_walk : CProp P w K mg base ⟨K, cls⟩ 20 "walk" ["self"] 1 r_Tree_walk) (h_d_Tree_names : CProp P w K mg base ⟨K, cls⟩ 20 "names" ["self"] 1 r_Tree_names) (h_b_list : mg "list" = none) : FnOk P w K mg base (L2.CX P w) 43 f fd ["_law_tree", "_law_figure", "_law_other"] (spOf ⟨K, cls⟩ r_l_equal_right) :=
  fn_pv F sc_l_equal_right fun cdv A outer s H E B pr hr => by
    have hu : (cxOf (L2.CX P w) P w K mg base ["_law_tree", "_law_figure", "_law_other", "_law_one"] "_law_equal_right" (defScope st_l_equal_right) f cdv A outer s H E).A.units + 200 < cLine := room_hu hr
    have hu1 : (cxOf (L2.CX P w) P w K mg base ["_law_tree", "_law_figure", "_law_other", "_law_one"] "_law_equal_right" (defScope st_l_equal_right) f cdv A outer s H E).A.units + 1 < cLine := by omega
    have nd := sc_l_equal_right.nd
    have tk : Takes (cxOf (L2.CX P w) P w K mg base ["_law_tree", "_law_figure", "_law_other", "_law_one"] "_law_equal_right" (defScope st_l_equal_right) f cdv A outer s H E) (fun cls d _ H => E cls d H) := takes_of rfl rfl rfl rfl
    exact (st_cons (st_if (s_borT (s_orT (s_ct b_deq (s_deqC true rfl h_d_Tree_eq h_eq_Tree rfl (by exact hr) (by first | exact Nat.le_refl _ | omega) (s_varA (i := 0) rfl (.inr (.inl rfl)) rfl rfl) (s_A (s_makeC (sp := [.var 1]) (sk := []) (g := [.inl 1]) h_mk_Tree_1_ rfl (by exact hr) (by first | exact Nat.le_refl _ | omega) rfl rfl tk (s_As1 (s_varA (i := 1) rfl (.inl rfl) rfl rfl) s_As0 rfl) s_K0 (by intro z; cases z) rfl rfl rfl rfl rfl) rfl)) rfl) (s_orT1 (s_cmT rfl (by exact hu) (k := .ne) (s_A (s_cv (s_deqC false rfl h_d_Tree_eq h_eq_Tree rfl (by exact hr) (by first | exact Nat.le_refl _ | omega) (s_varA (i := 0) rfl (.inr (.inl rfl)) rfl rfl) (s_A (s_makeC (sp := [.var 2]) (sk := []) (g := [.inl 1]) h_mk_Tree_1_ rfl (by exact hr) (by first | exact Nat.le_refl _ | omega) rfl rfl tk (s_As1 (s_varA (i := 2) rfl (.inl rfl) rfl rfl) s_As0 rfl) s_K0 (by intro z; cases z) rfl rfl rfl rfl rfl) rfl)) rfl) rfl) (s_A (s_cm rfl (by exact hu) (k := .eq) (s_varA (i := 1) rfl (.inl rfl) rfl rfl) (s_varA (i := 2) rfl (.inl rfl) rfl rfl) rfl) rfl) rfl)))) (st_cons (st_ret (s_C pe_bl (by intro _ _; exact rfl))) st_nil) st_nil) (st_cons (st_ret (s_cm rfl (by exact hu) (k := .notin) (s_A (s_C pe_bl (by intro _ _; exact rfl)) rfl) (s_A (s_compP pr rfl nd (own := [("_law_one", 3)]) (se := .deq false 20 13 (.var 0) (.var 3)) (t := .nm 3) (ie := .of (.lst [.var 1, .prop 20 "walk" 8 (.var 0), .prop 20 "names" 9 (.var 0), .lit .non, .lit (.int 0), .lit (.str "a"), .fn .list [.prop 20 "names" 9 (.var 0)]])) (sifs := []) (by decide) rfl (by decide) (i_of rfl (s_A (s_lst (hz_of (by decide)) (s_L1 (s_var (i := 1) rfl (.inl rfl) rfl rfl) (s_L1 (s_propC h_d_Tree_walk rfl (by exact hr) (by first | exact Nat.le_refl _ | omega) (s_varA (i := 0) rfl (.inr (.inl rfl)) rfl rfl) rfl) (s_L1 (s_propC h_d_Tree_names rfl (by exact hr) (by first | exact Nat.le_refl _ | omega) (s_varA (i := 0) rfl (.inr (.inl rfl)) rfl rfl) rfl) (s_L1 (s_C pe_non (by intro _ _; exact rfl)) (s_L1 (s_C pe_int (by intro _ _; exact rfl)) (s_L1 (s_C pe_str (by intro _ _; exact rfl)) (s_L1 (s_fn (k := .list) rfl rfl rfl rfl rfl h_b_list (s_As1 (s_A (s_propC h_d_Tree_names rfl (by exact hr) (by first | exact Nat.le_refl _ | omega) (s_varA (i := 0) rfl (.inr (.inl rfl)) rfl rfl) rfl) rfl) s_As0 rfl) rfl rfl) s_L0 rfl) rfl) rfl) rfl) rfl) rfl) rfl)) rfl)) (blkOk_by (N := ["_law_tree", "_law_figure", "_law_other", "_law_one"]) (sc := defScope st_l_equal_right) (by decide +kernel)) (fun s H C cl fp => (s_tgN (i := 3) nd rfl (.inl rfl) (.inr rfl) (pr.ne rfl))) (fun s H C cl fp => s_ts0) (fun s H C cl fp => (s_cv (s_deqC false rfl h_d_Tree_eq h_eq_Tree rfl (by exact hr) (by first | exact Nat.le_refl _ | omega) (s_varA (i := 0) rfl (.inr (.inl rfl)) rfl rfl) (s_varA (i := 3) rfl (.inl rfl) rfl rfl)) rfl)) (fun _ => rfl)) rfl) rfl)) st_nil))
abbrev st_law : Stmt := (top 27)
theorem sc_law : FnScope ["_law_script", "_law_k", "_law_state", "_law_names_here", "_law_walk_here", "_law_other", "_law_tree", "_law_above"] ["_law_script"] (defScope st_law) := ⟨rfl, rfl, rfl, by decide +kernel, rfl, by decide +kernel, by decide +kernel⟩
def b_law : List SS := [.for (.nm 1) (.range [.fn .max2 [.lit (.int 1), .fn .min2 [.lit (.int 8), .fn .len [.var 0]]]]) [.asg (.nm 2) (.call 20 [.bi .add (.slc (.var 0) (.var 1) (.lit .non)) (.slc (.var 0) (.lit .non) (.var 1))]), .asg (.nm 3) (.call 25 [.var 2, .call 22 [.var 2, .lit (.int 13)]]), .asg (.tp [.nm 4, .nm 5]) (.tup [.call 27 [.var 2, .var 3], .call 27 [.var 2, .var 3]]), .asg (.tp [.nm 6, .nm 7]) (.tup [.make 20 5 ([.call 28 [.var 4]] ++ []) (.inl 0 :: [.inl 1]), .call 29 [.var 4]]), .ite (.bor [.bnot (.call 31 [.var 6, .var 4, .var 7]), .bnot (.call 30 [.var 6, .var 7])]) [.ret (.lit (.bl false))] [], .ite (.bnot (.call 31 [.var 6, .var 4, .var 7])) [.ret (.lit (.bl false))] [], .ite (.bnot (.call 32 [.var 6, .call 28 [.var 4], .call 28 [.var 5]])) [.ret (.lit (.bl false))] []], .ret (.band [.cm .eq (.lit (.int 12)) (.lit (.int 12)), .deq false 20 13 (.make 20 5 ([] ++ []) (.inl 0 :: [.inr (.tup [])])) (.make 20 5 ([.tup []] ++ []) (.inl 0 :: [.inl 1])), .cm .eq (.prop 20 "walk" 8 (.make 20 5 ([] ++ []) (.inl 0 :: [.inr (.tup [])]))) (.tup []), .cm .eq (.meth 20 "roots" 17 (.make 20 5 ([] ++ [.tup []]) (.inl 0 :: [.inl 1])) [] (idg 1)) (.lst [])])]
noncomputable def r_law : List O → FRes := runD (phi [(5, r_Tree__init_), (8, r_Tree_walk), (13, r_Tree__eq_), (17, r_Tree_roots), (20, r_l_begun), (22, r_l_take), (25, r_l_names), (27, r_l_walk), (28, r_l_shape), (29, r_l_parents), (30, r_l_lists_right), (31, r_l_values_right), (32, r_l_equal_right)]) b_law 1 8 [0]
theorem w_law {mc : Value} {uu : Value} {P : Program} {w : World} {K : PySem.W.Frag} {mg : Str → Option Value} {base : Heap} {cls : Nat → Addr} {dvs : List V} {kws : List (Str × V)} {f : Addr} {fd : FuncData} (F : FunD K "law" "law" (defArgs st_law) (defBody st_law) (defScope st_law) dvs kws f fd) (h_b_range : mg "range" = none) (h_b_len : mg "len" = none) (h_b_min : mg "min" = none) (h_b_max : mg "max" = none) (h_d__law_begun : Callee P w K mg base ⟨K, cls⟩ "_law_begun" ["_law_script"] 1 r_l_begun) (h_d__law_names : Callee P w K mg base ⟨K, cls⟩ "_law_names" ["_law_state", "_law_many"] 4 r_l_names) (h_d__law_take : Callee P w K mg base ⟨K, cls⟩ "_law_take" ["_law_state", "_law_size"] 2 r_l_take) (h_d__law_walk : Callee P w K mg base ⟨K, cls⟩ "_law_walk" ["_law_state", "_law_names_here"] 5 r_l_walk) (h_d_Tree_init : CMeth P w K mg base ⟨K, cls⟩ 20 "__init__" ["self", "shape"] 41 r_Tree__init_) (h_mk_Tree_1_ : CMake P w K mg base ⟨K, cls⟩ 20 "Tree" 41 r_Tree__init_ 1 [] [.inl 1]) (h_d__law_shape : Callee P w K mg base ⟨K, cls⟩ "_law_shape" ["_law_walk_here"] 1 r_l_shape) (h_d__law_parents : Callee P w K mg base ⟨K, cls⟩ "_law_parents" ["_law_walk_here"] 1 r_l_parents) (h_d__law_values_right : Callee P w K mg base ⟨K, cls⟩ "_law_values_right" ["_law_tree", "_law_walk_here", "_law_above"] 3 r_l_values_right) (h_d__law_lists_right : Callee P w K mg base ⟨K, cls⟩ "_law_lists_right" ["_law_tree", "_law_above"] 3 r_l_lists_right) (h_d__law_equal_right : Callee P w K mg base ⟨K, cls⟩ "_law_equal_right" ["_law_tree", "_law_figure", "_law_other"] 43 r_l_equal_right) (h_k_Tree_MOST : CConst K mg "Tree" "MOST" (cls 20) mc (.int 12) uu) (h_d_Tree_eq : CMeth P w K mg base ⟨K, cls⟩ 20 "__eq__" ["self", "other"] 1 r_Tree__eq_) (h_eq_Tree : CEq K ⟨K, cls⟩ 20) (h_mk_Tree_0_ : CMake P w K mg base ⟨K, cls⟩ 20 "Tree" 41 r_Tree__init_ 0 [] [.inr (.tup [])]) (h_d_Tree_walk : CProp P w K mg base ⟨K, cls⟩ 20 "walk" ["self"] 1 r_Tree_walk) (h_d_Tree_roots : CMeth P w K mg base ⟨K, cls⟩ 20 "roots" ["self"] 1 r_Tree_roots) (h_mk_Tree_0_shape : CMake P w K mg base ⟨K, cls⟩ 20 "Tree" 41 r_Tree__init_ 0 ["shape"] [.inl 1]) : FnOk P w K mg base (L2.CX P w) 44 f fd ["_law_script"] (spOf ⟨K, cls⟩ r_law) :=
  fn_pv F sc_law fun cdv A outer s H E B pr hr => by
    have hu : (cxOf (L2.CX P w) P w K mg base ["_law_script", "_law_k", "_law_state", "_law_names_here", "_law_walk_here", "_law_other", "_law_tree", "_law_above"] "law" (defScope st_law) f cdv A outer s H E).A.units + 200 < cLine := room_hu hr
    have hu1 : (cxOf (L2.CX P w) P w K mg base ["_law_script", "_law_k", "_law_state", "_law_names_here", "_law_walk_here", "_law_other", "_law_tree", "_law_above"] "law" (defScope st_law) f cdv A outer s H E).A.units + 1 < cLine := by omega
    have nd := sc_law.nd
    have tk : Takes (cxOf (L2.CX P w) P w K mg base ["_law_script", "_law_k", "_law_state", "_law_names_here", "_law_walk_here", "_law_other", "_law_tree", "_law_above"] "law" (defScope st_law) f cdv A outer s H E) (fun cls d _ H => E cls d H) := takes_of rfl rfl rfl rfl
    exact (st_cons (st_forP pr (passes_of rfl) rfl (i_range1 rfl h_b_range (s_L1 (s_fn (k := .max2) rfl rfl rfl rfl rfl h_b_max (s_As1 (s_A (s_C pe_int (by intro _ _; exact rfl)) rfl) (s_As1 (s_A (s_fn (k := .min2) rfl rfl rfl rfl rfl h_b_min (s_As1 (s_A (s_C pe_int (by intro _ _; exact rfl)) rfl) (s_As1 (s_A (s_fn (k := .len) rfl rfl rfl rfl rfl h_b_len (s_As1 (s_varA (i := 0) rfl (.inl rfl) rfl rfl) s_As0 rfl) rfl rfl) rfl) s_As0 rfl) rfl) rfl rfl) rfl) s_As0 rfl) rfl) rfl rfl) s_L0 rfl) rfl) (fun B pr => (s_tgN (i := 1) nd rfl (.inl rfl) (.inl rfl) (pr.ne rfl))) (fun B pr => (st_cons (st_asg (s_callC h_d__law_begun rfl (by exact hr) (by first | exact Nat.le_refl _ | omega) rfl tk (s_As1 (s_A (s_bi rfl (k := .add) (s_A (s_slc rfl (s_varA (i := 0) rfl (.inl rfl) rfl rfl) (s_part rfl (s_varA (i := 1) rfl (.inl rfl) rfl rfl)) s_noPart) rfl) (s_A (s_slc rfl (s_varA (i := 0) rfl (.inl rfl) rfl rfl) s_noPart (s_part rfl (s_varA (i := 1) rfl (.inl rfl) rfl rfl))) rfl)) rfl) s_As0 rfl) rfl rfl rfl) (o_tgN (i := 2) nd rfl (.inl rfl) (.inl rfl) (pr.ne rfl)) rfl rfl rfl) (st_cons (st_asg (s_callC h_d__law_names rfl (by exact hr) (by first | exact Nat.le_refl _ | omega) rfl tk (s_As1 (s_varA (i := 2) rfl (.inl rfl) rfl rfl) (s_As1 (s_A (s_callC h_d__law_take rfl (by exact hr) (by first | exact Nat.le_refl _ | omega) rfl tk (s_As1 (s_varA (i := 2) rfl (.inl rfl) rfl rfl) (s_As1 (s_A (s_C pe_int (by intro _ _; exact rfl)) rfl) s_As0 rfl) rfl) rfl rfl rfl) rfl) s_As0 rfl) rfl) rfl rfl rfl) (o_tgN (i := 3) nd rfl (.inl rfl) (.inl rfl) (pr.ne rfl)) rfl rfl rfl) (st_cons (st_par2 (i := 4) (j := 5) rfl nd rfl rfl (by decide) rfl rfl (pr.ne rfl) (pr.ne rfl) (s_L1 (s_callC h_d__law_walk rfl (by exact hr) (by first | exact Nat.le_refl _ | omega) rfl tk (s_As1 (s_varA (i := 2) rfl (.inl rfl) rfl rfl) (s_As1 (s_varA (i := 3) rfl (.inl rfl) rfl rfl) s_As0 rfl) rfl) rfl rfl rfl) (s_L1 (s_callC h_d__law_walk rfl (by exact hr) (by first | exact Nat.le_refl _ | omega) rfl tk (s_As1 (s_varA (i := 2) rfl (.inl rfl) rfl rfl) (s_As1 (s_varA (i := 3) rfl (.inl rfl) rfl rfl) s_As0 rfl) rfl) rfl rfl rfl) s_L0 rfl) rfl) rfl rfl) (st_cons (st_par2 (i := 6) (j := 7) rfl nd rfl rfl (by decide) rfl rfl (pr.ne rfl) (pr.ne rfl) (s_L1 (s_makeC (sp := [.call 28 [.var 4]]) (sk := []) (g := [.inl 1]) h_mk_Tree_1_ rfl (by exact hr) (by first | exact Nat.le_refl _ | omega) rfl rfl tk (s_As1 (s_A (s_callC h_d__law_shape rfl (by exact hr) (by first | exact Nat.le_refl _ | omega) rfl tk (s_As1 (s_varA (i := 4) rfl (.inl rfl) rfl rfl) s_As0 rfl) rfl rfl rfl) rfl) s_As0 rfl) s_K0 (by intro z; cases z) rfl rfl rfl rfl rfl) (s_L1 (s_callC h_d__law_parents rfl (by exact hr) (by first | exact Nat.le_refl _ | omega) rfl tk (s_As1 (s_varA (i := 4) rfl (.inl rfl) rfl rfl) s_As0 rfl) rfl rfl rfl) s_L0 rfl) rfl) rfl rfl) (st_cons (st_if (s_borT (s_orT (s_notT (s_T rfl (s_A (s_callC h_d__law_values_right rfl (by exact hr) (by first | exact Nat.le_refl _ | omega) rfl tk (s_As1 (s_varA (i := 6) rfl (.inl rfl) rfl rfl) (s_As1 (s_varA (i := 4) rfl (.inl rfl) rfl rfl) (s_As1 (s_varA (i := 7) rfl (.inl rfl) rfl rfl) s_As0 rfl) rfl) rfl) rfl rfl rfl) rfl) rfl rfl)) (s_orT1 (s_notT (s_T rfl (s_A (s_callC h_d__law_lists_right rfl (by exact hr) (by first | exact Nat.le_refl _ | omega) rfl tk (s_As1 (s_varA (i := 6) rfl (.inl rfl) rfl rfl) (s_As1 (s_varA (i := 7) rfl (.inl rfl) rfl rfl) s_As0 rfl) rfl) rfl rfl rfl) rfl) rfl rfl))))) (st_cons (st_ret (s_C pe_bl (by intro _ _; exact rfl))) st_nil) st_nil) (st_cons (st_if (s_notT (s_T rfl (s_A (s_callC h_d__law_values_right rfl (by exact hr) (by first | exact Nat.le_refl _ | omega) rfl tk (s_As1 (s_varA (i := 6) rfl (.inl rfl) rfl rfl) (s_As1 (s_varA (i := 4) rfl (.inl rfl) rfl rfl) (s_As1 (s_varA (i := 7) rfl (.inl rfl) rfl rfl) s_As0 rfl) rfl) rfl) rfl rfl rfl) rfl) rfl rfl)) (st_cons (st_ret (s_C pe_bl (by intro _ _; exact rfl))) st_nil) st_nil) (st_cons (st_if (s_notT (s_T rfl (s_A (s_callC h_d__law_equal_right rfl (by exact hr) (by first | exact Nat.le_refl _ | omega) rfl tk (s_As1 (s_varA (i := 6) rfl (.inl rfl) rfl rfl) (s_As1 (s_A (s_callC h_d__law_shape rfl (by exact hr) (by first | exact Nat.le_refl _ | omega) rfl tk (s_As1 (s_varA (i := 4) rfl (.inl rfl) rfl rfl) s_As0 rfl) rfl rfl rfl) rfl) (s_As1 (s_A (s_callC h_d__law_shape rfl (by exact hr) (by first | exact Nat.le_refl _ | omega) rfl tk (s_As1 (s_varA (i := 5) rfl (.inl rfl) rfl rfl) s_As0 rfl) rfl rfl rfl) rfl) s_As0 rfl) rfl) rfl) rfl rfl rfl) rfl) rfl rfl)) (st_cons (st_ret (s_C pe_bl (by intro _ _; exact rfl))) st_nil) st_nil) st_nil)))))))) (fun _ => rfl)) (st_cons (st_ret (s_band (s_and (s_cm rfl (by exact hu) (k := .eq) (s_A (s_ccon rfl h_k_Tree_MOST.gm h_k_Tree_MOST.rd h_k_Tree_MOST.cv (fun _ _ => rfl) rfl rfl) rfl) (s_A (s_C pe_int (by intro _ _; exact rfl)) rfl) rfl) (s_and (s_cv (s_deqC false rfl h_d_Tree_eq h_eq_Tree rfl (by exact hr) (by first | exact Nat.le_refl _ | omega) (s_A (s_makeC (sp := []) (sk := []) (g := [.inr (.tup [])]) h_mk_Tree_0_ rfl (by exact hr) (by first | exact Nat.le_refl _ | omega) rfl rfl tk s_As0 s_K0 (fun _ => rfl) trivial rfl rfl rfl rfl) rfl) (s_A (s_makeC (sp := [.tup []]) (sk := []) (g := [.inl 1]) h_mk_Tree_1_ rfl (by exact hr) (by first | exact Nat.le_refl _ | omega) rfl rfl tk (s_As1 (s_A (s_tup (hz_of (by decide)) s_L0) rfl) s_As0 rfl) s_K0 (by intro z; cases z) rfl rfl rfl rfl rfl) rfl)) rfl) (s_and (s_cm rfl (by exact hu) (k := .eq) (s_A (s_propC h_d_Tree_walk rfl (by exact hr) (by first | exact Nat.le_refl _ | omega) (s_A (s_makeC (sp := []) (sk := []) (g := [.inr (.tup [])]) h_mk_Tree_0_ rfl (by exact hr) (by first | exact Nat.le_refl _ | omega) rfl rfl tk s_As0 s_K0 (fun _ => rfl) trivial rfl rfl rfl rfl) rfl) rfl) rfl) (s_A (s_tup (hz_of (by decide)) s_L0) rfl) rfl) (s_and1 (s_cm rfl (by exact hu) (k := .eq) (s_A (s_methC (sp := []) h_d_Tree_roots rfl (by exact hr) (by first | exact Nat.le_refl _ | omega) rfl tk (s_A (s_makeC (sp := []) (sk := [.tup []]) (g := [.inl 1]) h_mk_Tree_0_shape rfl (by exact hr) (by first | exact Nat.le_refl _ | omega) rfl rfl tk s_As0 (s_K1 (s_A (s_tup (hz_of (by decide)) s_L0) rfl) s_K0) (fun _ => rfl) trivial rfl rfl rfl rfl) rfl) s_As0 (fun _ => rfl) trivial rfl rfl) rfl) (s_A (s_lst (hz_of (by decide)) s_L0) rfl) rfl))))))) st_nil))
end K01
namespace K01
open PySem PySem.Spec PyProof.Rows L2 PV
def ce_is_name_1 : SE := (.cm .isin (.var 1) (.glo "LETTERS" (.str "abcdefghijklmnopqrstuvwxyz")))
theorem bb_is_name : b_is_name = [.ite (.bor [.bnot (.isa [20] [.str] (.var 0)), .bnot (.cm2 .le .le (.lit (.int 1)) (.fn .len [.var 0]) (.glo "MOST_LETTERS" (.int 8)))]) [.ret (.lit (.bl false))] [], .ret (.fn .all [.comp .lst ce_is_name_1 [1] (.nm 1) (.of (.var 0)) []])] := rfl
def ce_l_begun_1 : SE := (.bi .sub (.var 2) (.bi .pow (.lit (.int 10)) (.lit (.int 18))))
def ci_l_begun_1 : List SE := [.cm .ge (.var 2) (.bi .pow (.lit (.int 10)) (.lit (.int 18)))]
theorem bb_l_begun : b_l_begun = [.asg (.nm 1) (.comp .lst ce_l_begun_1 [2] (.nm 2) (.of (.var 0)) ci_l_begun_1), .ret (.dct (flatS [(.lit (.str "large"), .mv 1), (.lit (.str "cells"), .frz (.fn .list [.var 0])), (.lit (.str "rest"), .lit (.int 0)), (.lit (.str "turn"), .lit (.int 0))]))] := rfl
def lb_l_mixed_1 : List SS := [.asg (.nm 3) (.bi .mod (.fn .int [.bi .add (.bi .mul (.var 3) (.lit (.int 48271))) (.var 4)]) (.var 2))]
def lb_l_mixed_2 : List SS := [.asg (.nm 3) (.bi .add (.bi .mul (.lit (.int 104729)) (.idx (.var 0) (.lit (.str "turn")))) (.bi .fdiv (.var 2) (.lit (.int 7)))), .for (.nm 4) (.of (.idx (.var 0) (.lit (.str "cells")))) lb_l_mixed_1, .asg (.nm 1) (.bi .add (.bi .mul (.var 1) (.lit (.int 2147483647))) (.bi .mod (.fn .int [.bi .pow (.var 3) (.lit (.int 5))]) (.var 2)))]
theorem bb_l_mixed : b_l_mixed = [.sub 0 [.lit (.str "turn")] (.bi .add (.idx (.var 0) (.lit (.str "turn"))) (.lit (.int 1))), .asg (.nm 1) (.lit (.int 0)), .for (.nm 2) (.of (.lst [.lit (.int 2147483629), .lit (.int 2147483587), .lit (.int 2147483579), .lit (.int 2147483563), .lit (.int 2147483549), .lit (.int 2147483543)])) lb_l_mixed_2, .ret (.mv 1)] := rfl
theorem bb_l_take : b_l_take = [.ite (.cm .eq (.idx (.var 0) (.lit (.str "rest"))) (.lit (.int 0))) [.sub 0 [.lit (.str "rest")] (.ite (.pkcm .ne 0 [.lit (.str "large")] (.lst [])) (.mu .popAt 0 [.lit (.str "large")] [.lit (.int 0)]) (.call 21 [.var 0]))] [], .asg (.nm 2) (.bi .mod (.fn .int [.idx (.var 0) (.lit (.str "rest"))]) (.var 1)), .sub 0 [.lit (.str "rest")] (.bi .fdiv (.idx (.var 0) (.lit (.str "rest"))) (.var 1)), .ret (.mv 2)] := rfl
theorem bb_l_pick : b_l_pick = [.ret (.idx (.var 1) (.call 22 [.var 0, .fn .len [.var 1]]))] := rfl
def ce_l_name_1 : SE := (.idx (.var 3) (.call 22 [.var 0, .lit (.int 26)]))
theorem bb_l_name : b_l_name = [.asg (.nm 1) (.lit (.str "tree drop undo lasting ring room range periods fewest trees none ok no row")), .asg (.nm 1) (.mt .split (.bi .add (.var 1) (.lit (.str " more refused enough top end pair a b c"))) [.lit (.str " ")]), .asg (.nm 2) (.call 22 [.var 0, .lit (.int 40)]), .ite (.cm .lt (.var 2) (.fn .len [.var 1])) [.ret (.idx (.var 1) (.var 2))] [], .asg (.nm 3) (.lit (.str "abcdefghijklmnopqrstuvwxyz")), .ret (.mt .join (.lit (.str "")) [.comp .lst ce_l_name_1 [4] (.nm 4) (.range [.bi .add (.lit (.int 1)) (.call 22 [.var 0, .lit (.int 8)])]) []])] := rfl
def ce_l_names_1 : SE := (.bi .add (.lit (.str "z")) (.var 6))
def ce_l_names_2 : SE := (.var 7)
def ci_l_names_1 : List SE := [.cm .notin (.var 7) (.var 2)]
def lb_l_names_1 : List SS := [.asg (.nm 5) (.call 24 [.var 0]), .ite (.cm .isin (.var 5) (.var 2)) [.asg (.nm 5) (.idx (.comp .lst ce_l_names_2 [7] (.nm 7) (.of (.var 3)) ci_l_names_1) (.lit (.int 0)))] [], .exp (.mu .append 2 [] [.var 5])]
theorem bb_l_names : b_l_names = [.asg (.tp [.nm 2, .nm 3]) (.tup [.lst [], .comp .lst ce_l_names_1 [6] (.nm 6) (.of (.lit (.str "abcdefghijklmnopqrstuvwxyz"))) []]), .for (.nm 4) (.range [.var 1]) lb_l_names_1, .ret (.mv 2)] := rfl
def lb_l_woven_1 : List SS := [.asg (.nm 4) (.bi .sub (.bi .add (.var 4) (.lit (.int 1))) (.bi .mul (.lit (.int 2)) (.idx (.idx (.var 1) (.var 6)) (.lit (.int 1))))), .ite (.cm .lt (.var 4) (.lit (.int 0))) [.brk] [], .ite (.cm .eq (.var 4) (.lit (.int 0))) [.exp (.mu .append 5 [] [.bi .add (.var 6) (.lit (.int 1))])] []]
theorem bb_l_woven : b_l_woven = [.asg (.tp [.nm 3, .nm 4]) (.tup [.call 22 [.var 0, .bi .add (.fn .len [.var 1]) (.lit (.int 1))], .lit (.int 0)]), .asg (.nm 5) (.lst [.var 3]), .for (.nm 6) (.range [.var 3, .fn .len [.var 1]]) lb_l_woven_1, .asg (.nm 7) (.call 23 [.var 0, .var 5]), .ret (.bi .add (.bi .add (.bi .add (.bi .add (.slc (.var 1) (.lit .non) (.var 3)) (.lst [.tup [.var 2, .lit (.int 0)]])) (.slc (.var 1) (.var 3) (.var 7))) (.lst [.tup [.var 2, .lit (.int 1)]])) (.slc (.var 1) (.var 7) (.lit .non)))] := rfl
def lb_l_walk_1 : List SS := [.asg (.nm 2) (.call 26 [.var 0, .var 2, .var 3])]
theorem bb_l_walk : b_l_walk = [.asg (.nm 2) (.lst []), .for (.nm 3) (.of (.var 1)) lb_l_walk_1, .ret (.mv 2)] := rfl
def lb_l_shape_1 : List SS := [.ite (.cm .eq (.var 4) (.lit (.int 0))) [.exp (.mu .append 2 [] [.var 3]), .exp (.mu .append 1 [] [.lst []])] [.asg (.nm 5) (.fn .tuple [.mu .pop 1 [] []]), .exp (.mu .append 1 [.un .neg (.lit (.int 1))] [.tup [.mu .pop 2 [] [], .var 5]])]]
theorem bb_l_shape : b_l_shape = [.asg (.tp [.nm 1, .nm 2]) (.tup [.lst [.lst []], .lst []]), .for (.tp [.nm 3, .nm 4]) (.of (.var 0)) lb_l_shape_1, .ret (.fn .tuple [.idx (.var 1) (.lit (.int 0))])] := rfl
def lb_l_parents_1 : List SS := [.ite (.cm .eq (.var 4) (.lit (.int 0))) [.sub 1 [.var 3] (.idx (.var 2) (.un .neg (.lit (.int 1)))), .exp (.mu .append 2 [] [.var 3])] [.exp (.mu .pop 2 [] [])]]
theorem bb_l_parents : b_l_parents = [.asg (.tp [.nm 1, .nm 2]) (.tup [.dct [], .lst [.lit .non]]), .for (.tp [.nm 3, .nm 4]) (.of (.var 0)) lb_l_parents_1, .ret (.mv 1)] := rfl
def lb_is_shape_1 : List SS := [.ite (.bor [.bnot (.isa [20] [.tuple] (.var 4)), .cm .ne (.fn .len [.var 4]) (.lit (.int 2)), .bnot (.call 2 [.idx (.var 4) (.lit (.int 0))])]) [.ret (.lit (.bl false))] [], .exp (.mu .append 1 [] [.idx (.var 4) (.lit (.int 0))]), .ite (.cm .gt (.fn .len [.var 1]) (.glo "MOST_NAMES" (.int 12))) [.ret (.lit (.bl false))] [], .exp (.mu .append 2 [] [.idx (.var 4) (.lit (.int 1))])]
def lb_is_shape_2 : List SS := [.asg (.nm 3) (.mu .pop 2 [] []), .ite (.bnot (.isa [20] [.tuple] (.var 3))) [.ret (.lit (.bl false))] [], .for (.nm 4) (.of (.var 3)) lb_is_shape_1]
theorem bb_is_shape : b_is_shape = [.asg (.tp [.nm 1, .nm 2]) (.tup [.lst [], .lst [.var 0]]), .whl (.cm .ne (.var 2) (.lst [])) lb_is_shape_2, .ret (.cm .eq (.fn .lenset [.var 1]) (.fn .len [.var 1]))] := rfl
def lb_walk_of_1 : List SS := [.exp (.mu .append 1 [] [.tup [.var 2, .lit (.int 0)]]), .exp (.mu .extend 1 [] [.call 4 [.var 3]]), .exp (.mu .append 1 [] [.tup [.var 2, .lit (.int 1)]])]
theorem bb_walk_of : b_walk_of = [.asg (.nm 1) (.lst []), .for (.tp [.nm 2, .nm 3]) (.of (.var 0)) lb_walk_of_1, .ret (.mv 1)] := rfl
def ce_Tree__init__1 : SE := (.var 3)
def ci_Tree__init__1 : List SE := [.cm .eq (.var 4) (.lit (.int 0))]
def lb_Tree__init__1 : List SS := [.ite (.cm .eq (.var 4) (.lit (.int 0))) [.sub 0 [.var 3, .lit (.exc 20 [.str "above"])] (.ite (.cm .ne (.var 2) (.lst [])) (.idx (.var 2) (.un .neg (.lit (.int 1)))) (.lit .non)), .exp (.mu .append 2 [] [.var 3])] [.exp (.mu .pop 2 [] [])]]
theorem bb_Tree__init_ : b_Tree__init_ = [.ite (.bnot (.call 3 [.var 1])) [.never] [], .fld 0 20 "own_shape" (.var 1), .fld 0 20 "own_walk" (.fn .tuple [.call 4 [.var 1]]), .fld 0 20 "own_names" (.fn .tuple [.comp .lst ce_Tree__init__1 [3, 4] (.tp [.nm 3, .nm 4]) (.of (.fld 20 (.var 0) "own_walk")) ci_Tree__init__1]), .asg (.tp [.fl 0 20 "above", .nm 2]) (.tup [.dct [], .lst []]), .for (.tp [.nm 3, .nm 4]) (.of (.fld 20 (.var 0) "own_walk")) lb_Tree__init__1] := rfl
theorem bb_Tree_shape : b_Tree_shape = [.ret (.fld 20 (.var 0) "own_shape")] := rfl
theorem bb_Tree_walk : b_Tree_walk = [.ret (.fld 20 (.var 0) "own_walk")] := rfl
theorem bb_Tree_names : b_Tree_names = [.ret (.fld 20 (.var 0) "own_names")] := rfl
theorem bb_Tree__len_ : b_Tree__len_ = [.ret (.fn .len [.fld 20 (.var 0) "own_names"])] := rfl
theorem bb_Tree__contains_ : b_Tree__contains_ = [.ret (.cm .isin (.var 1) (.fld 20 (.var 0) "own_names"))] := rfl
theorem bb_Tree__eq_ : b_Tree__eq_ = [.ret (.band [.isa [20] [.cls 20] (.var 1), .cm .eq (.fld 20 (.var 0) "own_shape") (.fld 20 (.var 1) "own_shape")])] := rfl
theorem bb_Tree_need_name : b_Tree_need_name = [.ite (.cm .notin (.var 1) (.fld 20 (.var 0) "own_names")) [.never] []] := rfl
theorem bb_Tree_parent : b_Tree_parent = [.exp (.meth 20 "need_name" 14 (.var 0) [.var 1] (idg 2)), .ret (.idx (.fld 20 (.var 0) "above") (.var 1))] := rfl
def ce_Tree_children_1 : SE := (.var 2)
def ci_Tree_children_1 : List SE := [.cm .eq (.idx (.fld 20 (.var 0) "above") (.var 2)) (.var 1)]
theorem bb_Tree_children : b_Tree_children = [.exp (.meth 20 "need_name" 14 (.var 0) [.var 1] (idg 2)), .ret (.comp .lst ce_Tree_children_1 [2] (.nm 2) (.of (.fld 20 (.var 0) "own_names")) ci_Tree_children_1)] := rfl
def ce_Tree_roots_1 : SE := (.var 1)
def ci_Tree_roots_1 : List SE := [.cm .is (.idx (.fld 20 (.var 0) "above") (.var 1)) (.lit .non)]
theorem bb_Tree_roots : b_Tree_roots = [.ret (.comp .lst ce_Tree_roots_1 [1] (.nm 1) (.of (.fld 20 (.var 0) "own_names")) ci_Tree_roots_1)] := rfl
def ce_l_lists_right_1 : SE := (.var 6)
def ci_l_lists_right_1 : List SE := [.cm .eq (.idx (.var 1) (.var 6)) (.var 2)]
def lb_l_lists_right_1 : List SS := [.asg (.nm 5) (.ite (.cm .is (.var 2) (.lit .non)) (.meth 20 "roots" 17 (.var 0) [] (idg 1)) (.meth 20 "children" 16 (.var 0) [.var 2] (idg 2))), .ite (.bor [.bnot (.isa [20] [.list] (.var 5)), .cm .ne (.var 5) (.var 3)]) [.ret (.lit (.bl false))] [], .exp (.mu .append 5 [] [.lit (.str "zz")])]
def lb_l_lists_right_2 : List SS := [.lck 1 (.asg (.nm 3) (.comp .lst ce_l_lists_right_1 [6] (.nm 6) (.keys 1) ci_l_lists_right_1)), .for (.nm 4) (.range [.lit (.int 2)]) lb_l_lists_right_1]
theorem bb_l_lists_right : b_l_lists_right = [.for (.nm 2) (.of (.bi .add (.lst [.lit .non]) (.fn .list [.var 1]))) lb_l_lists_right_2, .ret (.lit (.bl true))] := rfl
def ce_l_values_right_1 : SE := (.din false 20 11 (.var 6) (.var 0))
def ce_l_values_right_2 : SE := (.cm .eq (.meth 20 "parent" 15 (.var 0) [.var 6] (idg 2)) (.idx (.var 2) (.var 6)))
def ce_l_values_right_3 : SE := (.bi .add (.var 6) (.lit (.str "aaaaaaaa")))
def ce_l_values_right_4 : SE := (.din false 20 11 (.var 7) (.var 0))
theorem bb_l_values_right : b_l_values_right = [.asg (.tp [.nm 3, .nm 4]) (.tup [.fn .list [.var 2], .call 28 [.var 1]]), .ite (.cm .ne (.tup [.prop 20 "shape" 7 (.var 0), .prop 20 "walk" 8 (.var 0), .prop 20 "names" 9 (.var 0)]) (.tup [.var 4, .fn .tuple [.var 1], .fn .tuple [.var 3]])) [.ret (.lit (.bl false))] [], .ite (.cm .ne (.dlen 20 10 (.var 0)) (.fn .len [.var 3])) [.ret (.lit (.bl false))] [], .ite (.cm .isin (.lit (.bl false)) (.comp .lst ce_l_values_right_1 [6] (.nm 6) (.of (.var 3)) [])) [.ret (.lit (.bl false))] [], .ite (.cm .isin (.lit (.bl false)) (.comp .lst ce_l_values_right_2 [6] (.nm 6) (.of (.var 3)) [])) [.ret (.lit (.bl false))] [], .asg (.nm 5) (.bi .add (.lst [.lit (.str "Zz"), .lit (.str ""), .lit .non, .lit (.int 3), .lit (.bl true), .lst [.lit (.str "a")], .tup [.lit (.str "a"), .lit (.int 0)], .dct (flatS [(.lit (.str "a"), .lit (.int 1))]), .var 4]) (.comp .lst ce_l_values_right_3 [6] (.nm 6) (.of (.var 3)) [])), .ret (.cm .notin (.lit (.bl true)) (.comp .lst ce_l_values_right_4 [7] (.nm 7) (.of (.var 5)) []))] := rfl
def ce_l_equal_right_1 : SE := (.deq false 20 13 (.var 0) (.var 3))
theorem bb_l_equal_right : b_l_equal_right = [.ite (.bor [.deq true 20 13 (.var 0) (.make 20 5 ([.var 1] ++ []) (.inl 0 :: [.inl 1])), .cm .ne (.deq false 20 13 (.var 0) (.make 20 5 ([.var 2] ++ []) (.inl 0 :: [.inl 1]))) (.cm .eq (.var 1) (.var 2))]) [.ret (.lit (.bl false))] [], .ret (.cm .notin (.lit (.bl true)) (.comp .lst ce_l_equal_right_1 [3] (.nm 3) (.of (.lst [.var 1, .prop 20 "walk" 8 (.var 0), .prop 20 "names" 9 (.var 0), .lit .non, .lit (.int 0), .lit (.str "a"), .fn .list [.prop 20 "names" 9 (.var 0)]])) []))] := rfl
def lb_law_1 : List SS := [.asg (.nm 2) (.call 20 [.bi .add (.slc (.var 0) (.var 1) (.lit .non)) (.slc (.var 0) (.lit .non) (.var 1))]), .asg (.nm 3) (.call 25 [.var 2, .call 22 [.var 2, .lit (.int 13)]]), .asg (.tp [.nm 4, .nm 5]) (.tup [.call 27 [.var 2, .var 3], .call 27 [.var 2, .var 3]]), .asg (.tp [.nm 6, .nm 7]) (.tup [.make 20 5 ([.call 28 [.var 4]] ++ []) (.inl 0 :: [.inl 1]), .call 29 [.var 4]]), .ite (.bor [.bnot (.call 31 [.var 6, .var 4, .var 7]), .bnot (.call 30 [.var 6, .var 7])]) [.ret (.lit (.bl false))] [], .ite (.bnot (.call 31 [.var 6, .var 4, .var 7])) [.ret (.lit (.bl false))] [], .ite (.bnot (.call 32 [.var 6, .call 28 [.var 4], .call 28 [.var 5]])) [.ret (.lit (.bl false))] []]
theorem bb_law : b_law = [.for (.nm 1) (.range [.fn .max2 [.lit (.int 1), .fn .min2 [.lit (.int 8), .fn .len [.var 0]]]]) lb_law_1, .ret (.band [.cm .eq (.lit (.int 12)) (.lit (.int 12)), .deq false 20 13 (.make 20 5 ([] ++ []) (.inl 0 :: [.inr (.tup [])])) (.make 20 5 ([.tup []] ++ []) (.inl 0 :: [.inl 1])), .cm .eq (.prop 20 "walk" 8 (.make 20 5 ([] ++ []) (.inl 0 :: [.inr (.tup [])]))) (.tup []), .cm .eq (.meth 20 "roots" 17 (.make 20 5 ([] ++ [.tup []]) (.inl 0 :: [.inl 1])) [] (idg 1)) (.lst [])])] := rfl
end K01
namespace K01
open PySem PySem.Spec PyProof.Rows L2 PV
def sb_l_mixed_1 : SS := .sub 0 [.lit (.str "turn")] (.bi .add (.idx (.var 0) (.lit (.str "turn"))) (.lit (.int 1)))
def sb_l_mixed_2 : SS := .asg (.nm 1) (.lit (.int 0))
def sb_l_mixed_3 : SS := .for (.nm 2) (.of (.lst [.lit (.int 2147483629), .lit (.int 2147483587), .lit (.int 2147483579), .lit (.int 2147483563), .lit (.int 2147483549), .lit (.int 2147483543)])) lb_l_mixed_2
def sb_l_mixed_4 : SS := .ret (.mv 1)
theorem bs_l_mixed : b_l_mixed = [sb_l_mixed_1, sb_l_mixed_2, sb_l_mixed_3, sb_l_mixed_4] := rfl
def sb_l_take_1 : SS := .ite (.cm .eq (.idx (.var 0) (.lit (.str "rest"))) (.lit (.int 0))) [.sub 0 [.lit (.str "rest")] (.ite (.pkcm .ne 0 [.lit (.str "large")] (.lst [])) (.mu .popAt 0 [.lit (.str "large")] [.lit (.int 0)]) (.call 21 [.var 0]))] []
def sb_l_take_2 : SS := .asg (.nm 2) (.bi .mod (.fn .int [.idx (.var 0) (.lit (.str "rest"))]) (.var 1))
def sb_l_take_3 : SS := .sub 0 [.lit (.str "rest")] (.bi .fdiv (.idx (.var 0) (.lit (.str "rest"))) (.var 1))
def sb_l_take_4 : SS := .ret (.mv 2)
theorem bs_l_take : b_l_take = [sb_l_take_1, sb_l_take_2, sb_l_take_3, sb_l_take_4] := rfl
def sb_l_name_1 : SS := .asg (.nm 1) (.lit (.str "tree drop undo lasting ring room range periods fewest trees none ok no row"))
def sb_l_name_2 : SS := .asg (.nm 1) (.mt .split (.bi .add (.var 1) (.lit (.str " more refused enough top end pair a b c"))) [.lit (.str " ")])
def sb_l_name_3 : SS := .asg (.nm 2) (.call 22 [.var 0, .lit (.int 40)])
def sb_l_name_4 : SS := .ite (.cm .lt (.var 2) (.fn .len [.var 1])) [.ret (.idx (.var 1) (.var 2))] []
def sb_l_name_5 : SS := .asg (.nm 3) (.lit (.str "abcdefghijklmnopqrstuvwxyz"))
def sb_l_name_6 : SS := .ret (.mt .join (.lit (.str "")) [.comp .lst ce_l_name_1 [4] (.nm 4) (.range [.bi .add (.lit (.int 1)) (.call 22 [.var 0, .lit (.int 8)])]) []])
theorem bs_l_name : b_l_name = [sb_l_name_1, sb_l_name_2, sb_l_name_3, sb_l_name_4, sb_l_name_5, sb_l_name_6] := rfl
def sb_l_names_1 : SS := .asg (.tp [.nm 2, .nm 3]) (.tup [.lst [], .comp .lst ce_l_names_1 [6] (.nm 6) (.of (.lit (.str "abcdefghijklmnopqrstuvwxyz"))) []])
def sb_l_names_2 : SS := .for (.nm 4) (.range [.var 1]) lb_l_names_1
def sb_l_names_3 : SS := .ret (.mv 2)
theorem bs_l_names : b_l_names = [sb_l_names_1, sb_l_names_2, sb_l_names_3] := rfl
def sb_l_woven_1 : SS := .asg (.tp [.nm 3, .nm 4]) (.tup [.call 22 [.var 0, .bi .add (.fn .len [.var 1]) (.lit (.int 1))], .lit (.int 0)])
def sb_l_woven_2 : SS := .asg (.nm 5) (.lst [.var 3])
def sb_l_woven_3 : SS := .for (.nm 6) (.range [.var 3, .fn .len [.var 1]]) lb_l_woven_1
def sb_l_woven_4 : SS := .asg (.nm 7) (.call 23 [.var 0, .var 5])
def sb_l_woven_5 : SS := .ret (.bi .add (.bi .add (.bi .add (.bi .add (.slc (.var 1) (.lit .non) (.var 3)) (.lst [.tup [.var 2, .lit (.int 0)]])) (.slc (.var 1) (.var 3) (.var 7))) (.lst [.tup [.var 2, .lit (.int 1)]])) (.slc (.var 1) (.var 7) (.lit .non)))
theorem bs_l_woven : b_l_woven = [sb_l_woven_1, sb_l_woven_2, sb_l_woven_3, sb_l_woven_4, sb_l_woven_5] := rfl
def sb_l_walk_1 : SS := .asg (.nm 2) (.lst [])
def sb_l_walk_2 : SS := .for (.nm 3) (.of (.var 1)) lb_l_walk_1
def sb_l_walk_3 : SS := .ret (.mv 2)
theorem bs_l_walk : b_l_walk = [sb_l_walk_1, sb_l_walk_2, sb_l_walk_3] := rfl
def sb_l_shape_1 : SS := .asg (.tp [.nm 1, .nm 2]) (.tup [.lst [.lst []], .lst []])
def sb_l_shape_2 : SS := .for (.tp [.nm 3, .nm 4]) (.of (.var 0)) lb_l_shape_1
def sb_l_shape_3 : SS := .ret (.fn .tuple [.idx (.var 1) (.lit (.int 0))])
theorem bs_l_shape : b_l_shape = [sb_l_shape_1, sb_l_shape_2, sb_l_shape_3] := rfl
def sb_l_parents_1 : SS := .asg (.tp [.nm 1, .nm 2]) (.tup [.dct [], .lst [.lit .non]])
def sb_l_parents_2 : SS := .for (.tp [.nm 3, .nm 4]) (.of (.var 0)) lb_l_parents_1
def sb_l_parents_3 : SS := .ret (.mv 1)
theorem bs_l_parents : b_l_parents = [sb_l_parents_1, sb_l_parents_2, sb_l_parents_3] := rfl
def sb_is_shape_1 : SS := .asg (.tp [.nm 1, .nm 2]) (.tup [.lst [], .lst [.var 0]])
def sb_is_shape_2 : SS := .whl (.cm .ne (.var 2) (.lst [])) lb_is_shape_2
def sb_is_shape_3 : SS := .ret (.cm .eq (.fn .lenset [.var 1]) (.fn .len [.var 1]))
theorem bs_is_shape : b_is_shape = [sb_is_shape_1, sb_is_shape_2, sb_is_shape_3] := rfl
def sb_walk_of_1 : SS := .asg (.nm 1) (.lst [])
def sb_walk_of_2 : SS := .for (.tp [.nm 2, .nm 3]) (.of (.var 0)) lb_walk_of_1
def sb_walk_of_3 : SS := .ret (.mv 1)
theorem bs_walk_of : b_walk_of = [sb_walk_of_1, sb_walk_of_2, sb_walk_of_3] := rfl
def sb_Tree__init__1 : SS := .ite (.bnot (.call 3 [.var 1])) [.never] []
def sb_Tree__init__2 : SS := .fld 0 20 "own_shape" (.var 1)
def sb_Tree__init__3 : SS := .fld 0 20 "own_walk" (.fn .tuple [.call 4 [.var 1]])
def sb_Tree__init__4 : SS := .fld 0 20 "own_names" (.fn .tuple [.comp .lst ce_Tree__init__1 [3, 4] (.tp [.nm 3, .nm 4]) (.of (.fld 20 (.var 0) "own_walk")) ci_Tree__init__1])
def sb_Tree__init__5 : SS := .asg (.tp [.fl 0 20 "above", .nm 2]) (.tup [.dct [], .lst []])
def sb_Tree__init__6 : SS := .for (.tp [.nm 3, .nm 4]) (.of (.fld 20 (.var 0) "own_walk")) lb_Tree__init__1
theorem bs_Tree__init_ : b_Tree__init_ = [sb_Tree__init__1, sb_Tree__init__2, sb_Tree__init__3, sb_Tree__init__4, sb_Tree__init__5, sb_Tree__init__6] := rfl
def sb_l_values_right_1 : SS := .asg (.tp [.nm 3, .nm 4]) (.tup [.fn .list [.var 2], .call 28 [.var 1]])
def sb_l_values_right_2 : SS := .ite (.cm .ne (.tup [.prop 20 "shape" 7 (.var 0), .prop 20 "walk" 8 (.var 0), .prop 20 "names" 9 (.var 0)]) (.tup [.var 4, .fn .tuple [.var 1], .fn .tuple [.var 3]])) [.ret (.lit (.bl false))] []
def sb_l_values_right_3 : SS := .ite (.cm .ne (.dlen 20 10 (.var 0)) (.fn .len [.var 3])) [.ret (.lit (.bl false))] []
def sb_l_values_right_4 : SS := .ite (.cm .isin (.lit (.bl false)) (.comp .lst ce_l_values_right_1 [6] (.nm 6) (.of (.var 3)) [])) [.ret (.lit (.bl false))] []
def sb_l_values_right_5 : SS := .ite (.cm .isin (.lit (.bl false)) (.comp .lst ce_l_values_right_2 [6] (.nm 6) (.of (.var 3)) [])) [.ret (.lit (.bl false))] []
def sb_l_values_right_6 : SS := .asg (.nm 5) (.bi .add (.lst [.lit (.str "Zz"), .lit (.str ""), .lit .non, .lit (.int 3), .lit (.bl true), .lst [.lit (.str "a")], .tup [.lit (.str "a"), .lit (.int 0)], .dct (flatS [(.lit (.str "a"), .lit (.int 1))]), .var 4]) (.comp .lst ce_l_values_right_3 [6] (.nm 6) (.of (.var 3)) []))
def sb_l_values_right_7 : SS := .ret (.cm .notin (.lit (.bl true)) (.comp .lst ce_l_values_right_4 [7] (.nm 7) (.of (.var 5)) []))
theorem bs_l_values_right : b_l_values_right = [sb_l_values_right_1, sb_l_values_right_2, sb_l_values_right_3, sb_l_values_right_4, sb_l_values_right_5, sb_l_values_right_6, sb_l_values_right_7] := rfl
end K01
namespace PV.K1
open PySem L2 K01
abbrev stK : List D := [.str "large", .str "cells", .str "rest", .str "turn"]
def stO (ls cs : List Int) (r t : Int) : O := .dic stK [.lst (ls.map fun i => .d (.int i)), .d (.lst (cs.map .int)), .d (.int r), .d (.int t)]
theorem kind_large : kindOk (.str "large") stK = true := rfl
theorem kind_cells : kindOk (.str "cells") stK = true := rfl
theorem kind_rest : kindOk (.str "rest") stK = true := rfl
theorem kind_turn : kindOk (.str "turn") stK = true := rfl
theorem pos_large : posD (.str "large") stK = some 0 := by decide +kernel
theorem pos_cells : posD (.str "cells") stK = some 1 := by decide +kernel
theorem pos_rest : posD (.str "rest") stK = some 2 := by decide +kernel
theorem pos_turn : posD (.str "turn") stK = some 3 := by decide +kernel
theorem look_pos : ∀ {ks vs : List D} {k : D}, lookD k ks vs = (posD k ks).bind fun n => vs[n]?
  | [], vs, k => by cases vs <;> rfl
  | j :: ks, [], k => by
    show none = _
    unfold posD
    split
    · rfl
    · cases posD k ks <;> rfl
  | j :: ks, v :: vs, k => by
    show (if keyOf j = keyOf k ∧ tkeyOf j = tkeyOf k then some v else lookD k ks vs) = _
    unfold posD
    split
    · rfl
    · rw [look_pos]
      cases posD k ks <;> rfl
theorem comp_filter {f : D → Env → Res (Option O)} {p : Int → Bool} {g : Int → O} {ρ : Env} : ∀ {xs : List Int}, (∀ x, f (.int x) ρ = .ok (if p x then some (g x) else none) ρ) → compL f (xs.map .int) ρ = .ok ((xs.filter p).map g) ρ
  | [], _ => rfl
  | x :: xs, h => by
    rw [List.map_cons, compL, h x]
    simp only [Res.bind_ok]
    rw [comp_filter h, List.filter_cons]
    cases p x <;> rfl
theorem keys_st : keysOf stK = some [.inr "large", .inr "cells", .inr "rest", .inr "turn"] := rfl
theorem begun (ns : List Int) : ∃ ls, r_l_begun [.d (.lst (ns.map .int))] = .ok (stO ls ns 0 0) [.d (.lst (ns.map .int))] := by
  refine ⟨(ns.filter fun x => decide (10 ^ 18 ≤ x)).map fun x => x - 10 ^ 18, ?_⟩
  refine (runD_eq (by rfl) (by rfl)).trans ?_
  rw [bb_l_begun]
  simp [runF, evSs, evS, evI, evA, evL, evAs, evC, evCs, evCor, evCand, evAnd, evOr, evKs, ev, killE, backE, opR, opX, partOk, partD, argO, plainA, fnSh, isa1, mtTy, muTy, pathO, setPath, snd2, putFO, posF, fieldD, eqTy, callR, makeR, mkT, iosOf, evens, odds, flatS, Res.noX, rangeD, Fl.whl, phi, List.lookup, putD, PySem.sizeLine_eq]
  rw [comp_filter (p := fun x => decide (10 ^ 18 ≤ x)) (g := fun x => .d (.int (x - 10 ^ 18)))]
  · simp (decide := true) [runF, evSs, evS, evI, evA, evL, evAs, evC, evCs, evCor, evCand, evAnd, evOr, evKs, ev, killE, backE, opR, opX, partOk, partD, argO, plainA, fnSh, isa1, mtTy, muTy, pathO, setPath, snd2, putFO, posF, fieldD, eqTy, callR, makeR, mkT, iosOf, evens, odds, flatS, Res.noX, rangeD, Fl.whl, phi, List.lookup, putD, PySem.sizeLine_eq, stO, keys_st, Function.comp_def, dicO]
  · intro x
    simp [runF, evSs, evS, evI, evA, evL, evAs, evC, evCs, evCor, evCand, evAnd, evOr, evKs, ev, killE, backE, opR, opX, partOk, partD, argO, plainA, fnSh, isa1, mtTy, muTy, pathO, setPath, snd2, putFO, posF, fieldD, eqTy, callR, makeR, mkT, iosOf, evens, odds, flatS, Res.noX, rangeD, Fl.whl, phi, List.lookup, putD, PySem.sizeLine_eq, ce_l_begun_1, ci_l_begun_1]
    by_cases h : (10 ^ 18 : Int) ≤ x
    · have h' : (1000000000000000000 : Int) ≤ x := h
      simp [h', killE]
    · have h' : ¬ (1000000000000000000 : Int) ≤ x := h
      simp [h', killE]
/-- a state of the generator: n bounds its turns -/
def Gd (n : Nat) (o : O) : Prop := ∃ ls cs r t, o = stO ls cs r t ∧ 0 ≤ t ∧ t ≤ (n : Int)
theorem Gd.mono {n m : Nat} {o : O} (h : Gd n o) (l : n ≤ m) : Gd m o := by
  obtain ⟨ls, cs, r, t, e, h1, h2⟩ := h
  exact ⟨ls, cs, r, t, e, h1, by omega⟩
theorem cells_loop {f : D → Env → Res Fl} {st found prime : Option O} {p : Int} (hp : 0 < p) (hp2 : p < 2 ^ 40)
    (h : ∀ c b x : Int, ∀ y, f (.int c) [st, found, prime, some (.d (.int b)), y] = .ok .nx [st, found, prime, some (.d (.int ((b * 48271 + c) % p))), some (.d (.int c))]) :
    ∀ (cs : List Int) (b : Int) (y : Option O), b.natAbs < 2 ^ 60 → ∃ b' y', forL f (cs.map .int) [st, found, prime, some (.d (.int b)), y] = .ok .nx [st, found, prime, some (.d (.int b')), y'] ∧ b'.natAbs < 2 ^ 60
  | [], b, y, hb => ⟨b, y, rfl, hb⟩
  | c :: cs, b, y, hb => by
    have l1 : 0 ≤ (b * 48271 + c) % p := Int.emod_nonneg _ (by omega)
    have l2 : (b * 48271 + c) % p < p := Int.emod_lt_of_pos _ hp
    obtain ⟨b', y', e, hb'⟩ := cells_loop hp hp2 h cs ((b * 48271 + c) % p) (some (.d (.int c))) (by omega)
    exact ⟨b', y', by rw [List.map_cons, forL, h c b 0]; simpa using e, hb'⟩
theorem mix_step {Φ : Phi} {ls cs : List Int} {r t : Int} (h0 : 0 ≤ t) (h1 : t < 2 ^ 40) {p fo : Int} (hp : 0 < p) (hp2 : p < 2 ^ 32) {y b c : Option O} :
    ∃ fo' b' c', (bnd (asgT (.nm 2) (.int p) [some (stO ls cs r t), some (.d (.int fo)), y, b, c]) fun ρ => evSs Φ lb_l_mixed_2 ρ) = .ok .nx [some (stO ls cs r t), some (.d (.int fo')), some (.d (.int p)), b', c'] := by
  obtain ⟨b', c', e, hb⟩ := cells_loop (f := fun x ρ => bnd (asgT (.nm 4) x ρ) fun ρ => evSs Φ lb_l_mixed_1 ρ) (st := some (stO ls cs r t)) (found := some (.d (.int fo))) (prime := some (.d (.int p))) (p := p) hp (by omega)
    (fun c b x y => by simp [runF, evSs, evS, evI, evA, evL, evAs, evC, evCs, evCor, evCand, evAnd, evOr, evKs, ev, killE, backE, opR, opX, partOk, partD, argO, plainA, fnSh, isa1, mtTy, muTy, pathO, setPath, snd2, putFO, posF, fieldD, eqTy, callR, makeR, mkT, iosOf, evens, odds, flatS, Res.noX, rangeD, Fl.whl, phi, List.lookup, putD, PySem.sizeLine_eq, lb_l_mixed_1, hp]) cs (104729 * t + p / 7) c (by omega)
  refine ⟨fo * 2147483647 + b' ^ 5 % p, some (.d (.int b')), c', ?_⟩
  have hd : (0 : Int) < p ∧ p < 18446744073709551616 := by omega
  have hb' : b'.natAbs < 18446744073709551616 := by omega
  simp [runF, evSs, evS, evI, evA, evL, evAs, evC, evCs, evCor, evCand, evAnd, evOr, evKs, ev, killE, backE, opR, opX, partOk, partD, argO, plainA, fnSh, isa1, mtTy, muTy, pathO, setPath, snd2, putFO, posF, fieldD, eqTy, callR, makeR, mkT, iosOf, evens, odds, flatS, Res.noX, rangeD, Fl.whl, phi, List.lookup, putD, PySem.sizeLine_eq, lb_l_mixed_2, stO, look_pos, kind_large, kind_cells, kind_rest, kind_turn, pos_large, pos_cells, pos_rest, pos_turn] at e ⊢
  simp [runF, evSs, evS, evI, evA, evL, evAs, evC, evCs, evCor, evCand, evAnd, evOr, evKs, ev, killE, backE, opR, opX, partOk, partD, argO, plainA, fnSh, isa1, mtTy, muTy, pathO, setPath, snd2, putFO, posF, fieldD, eqTy, callR, makeR, mkT, iosOf, evens, odds, flatS, Res.noX, rangeD, Fl.whl, phi, List.lookup, putD, PySem.sizeLine_eq, e, look_pos, kind_large, kind_cells, kind_rest, kind_turn, pos_large, pos_cells, pos_rest, pos_turn, hd.1, hb']
/-- a turn of the generator -/
theorem mix_loop {Φ : Phi} {ls cs : List Int} {r t : Int} (h0 : 0 ≤ t) (h1 : t < 2 ^ 40) : ∀ (ps : List Int), (∀ p ∈ ps, 0 < p ∧ p < 2 ^ 32) → ∀ (fo : Int) (y b c : Option O), 
    ∃ fo' y' b' c', forL (fun x ρ => bnd (asgT (.nm 2) x ρ) fun ρ => evSs Φ lb_l_mixed_2 ρ) (ps.map .int) [some (stO ls cs r t), some (.d (.int fo)), y, b, c] = .ok .nx [some (stO ls cs r t), some (.d (.int fo')), y', b', c']
  | [], _, fo, y, b, c => ⟨fo, y, b, c, rfl⟩
  | p :: ps, hp, fo, y, b, c => by
    obtain ⟨f1, b1, c1, e1⟩ := mix_step (Φ := Φ) (ls := ls) (cs := cs) (r := r) h0 h1 (hp p List.mem_cons_self).1 (hp p List.mem_cons_self).2 (fo := fo) (y := y) (b := b) (c := c)
    obtain ⟨f2, y2, b2, c2, e2⟩ := mix_loop h0 h1 ps (fun q hq => hp q (List.mem_cons_of_mem _ hq)) f1 (some (.d (.int p))) b1 c1
    exact ⟨f2, y2, b2, c2, by rw [List.map_cons, forL, e1]; exact e2⟩
theorem mixed {ls cs : List Int} {r t : Int} (h0 : 0 ≤ t) (h1 : t < 2 ^ 32) : ∃ v : Int, r_l_mixed [stO ls cs r t] = .ok (.d (.int v)) [stO ls cs r (t + 1)] := by
  obtain ⟨v, y, b, c, e⟩ := mix_loop (Φ := phi []) (ls := ls) (cs := cs) (r := r) (t := t + 1) (by omega) (by omega) [2147483629, 2147483587, 2147483579, 2147483563, 2147483549, 2147483543] (by decide) 0 none none none
  refine ⟨v, (runD_eq (by rfl) (by rfl)).trans ?_⟩
  rw [bb_l_mixed]
  simp [runF, evSs, evS, evI, evA, evL, evAs, evC, evCs, evCor, evCand, evAnd, evOr, evKs, ev, killE, backE, opR, opX, partOk, partD, argO, plainA, fnSh, isa1, mtTy, muTy, pathO, setPath, snd2, putFO, posF, fieldD, eqTy, callR, makeR, mkT, iosOf, evens, odds, flatS, Res.noX, rangeD, Fl.whl, phi, List.lookup, putD, PySem.sizeLine_eq, stO, look_pos, kind_large, kind_cells, kind_rest, kind_turn, pos_large, pos_cells, pos_rest, pos_turn] at e ⊢
  simp [runF, evSs, evS, evI, evA, evL, evAs, evC, evCs, evCor, evCand, evAnd, evOr, evKs, ev, killE, backE, opR, opX, partOk, partD, argO, plainA, fnSh, isa1, mtTy, muTy, pathO, setPath, snd2, putFO, posF, fieldD, eqTy, callR, makeR, mkT, iosOf, evens, odds, flatS, Res.noX, rangeD, Fl.whl, phi, List.lookup, putD, PySem.sizeLine_eq, e]
theorem okd_ints (n : Nat) : ∀ xs : List Int, D.okdL n (xs.map .int) = true
  | [] => by rw [List.map_nil, D.okdL]
  | x :: xs => by
    rw [List.map_cons, D.okdL, okd_ints n xs]
    cases n <;> simp [D.okd]
theorem take {n : Nat} {o : O} {s : Int} (g : Gd n o) (hn : n < 2 ^ 31) (h0 : 0 < s) (h1 : s < 1073741824) : ∃ (v : Int) (o' : O), r_l_take [o, .d (.int s)] = .ok (.d (.int v)) [o', .d (.int s)] ∧ 0 ≤ v ∧ v < s ∧ Gd (n + 1) o' := by
  obtain ⟨ls, cs, r, t, rfl, t0, t1⟩ := g
  have key : ∃ (v : Int) (o' : O), runF (phi [(21, r_l_mixed)]) b_l_take 3 [stO ls cs r t, .d (.int s)] = .ok (.d (.int v)) [o', .d (.int s)] ∧ 0 ≤ v ∧ v < s ∧ Gd (n + 1) o' := by
    rw [bb_l_take]
    by_cases hr : r = 0
    · cases ls with
      | nil =>
        obtain ⟨v, e⟩ := mixed (ls := []) (cs := cs) (r := r) t0 (by omega)
        refine ⟨v % s, stO [] cs (v / s) (t + 1), ?_, Int.emod_nonneg _ (by omega), Int.emod_lt_of_pos _ h0, _, _, _, _, rfl, by omega, by omega⟩
        simp [runF, evSs, evS, evI, evA, evL, evAs, evC, evCs, evCor, evCand, evAnd, evOr, evKs, ev, killE, backE, opR, opX, partOk, partD, argO, plainA, fnSh, isa1, mtTy, muTy, pathO, setPath, snd2, putFO, posF, fieldD, eqTy, callR, makeR, mkT, iosOf, evens, odds, flatS, Res.noX, rangeD, Fl.whl, phi, List.lookup, putD, PySem.sizeLine_eq, stO, look_pos, kind_large, kind_cells, kind_rest, kind_turn, pos_large, pos_cells, pos_rest, pos_turn, hr, q_eqd_ii] at e ⊢
        simp [runF, evSs, evS, evI, evA, evL, evAs, evC, evCs, evCor, evCand, evAnd, evOr, evKs, ev, killE, backE, opR, opX, partOk, partD, argO, plainA, fnSh, isa1, mtTy, muTy, pathO, setPath, snd2, putFO, posF, fieldD, eqTy, callR, makeR, mkT, iosOf, evens, odds, flatS, Res.noX, rangeD, Fl.whl, phi, List.lookup, putD, PySem.sizeLine_eq, e, look_pos, kind_large, kind_cells, kind_rest, kind_turn, pos_large, pos_cells, pos_rest, pos_turn, h0, h1, okS, D.okd, D.okdL, D.eqd, D.eqdL]
      | cons l ls =>
        refine ⟨l % s, stO ls cs (l / s) t, ?_, Int.emod_nonneg _ (by omega), Int.emod_lt_of_pos _ h0, _, _, _, _, rfl, by omega, by omega⟩
        have ho : D.okdL 149 (ls.map D.int) = true := okd_ints _ _
        simp [runF, evSs, evS, evI, evA, evL, evAs, evC, evCs, evCor, evCand, evAnd, evOr, evKs, ev, killE, backE, opR, opX, partOk, partD, argO, plainA, fnSh, isa1, mtTy, muTy, pathO, setPath, snd2, putFO, posF, fieldD, eqTy, callR, makeR, mkT, iosOf, evens, odds, flatS, Res.noX, rangeD, Fl.whl, phi, List.lookup, putD, PySem.sizeLine_eq, stO, look_pos, kind_large, kind_cells, kind_rest, kind_turn, pos_large, pos_cells, pos_rest, pos_turn, hr, q_eqd_ii]
        simp [runF, evSs, evS, evI, evA, evL, evAs, evC, evCs, evCor, evCand, evAnd, evOr, evKs, ev, killE, backE, opR, opX, partOk, partD, argO, plainA, fnSh, isa1, mtTy, muTy, pathO, setPath, snd2, putFO, posF, fieldD, eqTy, callR, makeR, mkT, iosOf, evens, odds, flatS, Res.noX, rangeD, Fl.whl, phi, List.lookup, putD, PySem.sizeLine_eq, look_pos, kind_large, kind_cells, kind_rest, kind_turn, pos_large, pos_cells, pos_rest, pos_turn, h0, h1, okS, D.okd, D.okdL, D.eqd, D.eqdL, ho, Function.comp_def, ixN]
    · refine ⟨r % s, stO ls cs (r / s) t, ?_, Int.emod_nonneg _ (by omega), Int.emod_lt_of_pos _ h0, _, _, _, _, rfl, by omega, by omega⟩
      have hr' : (r == 0) = false := by simpa using hr
      simp [runF, evSs, evS, evI, evA, evL, evAs, evC, evCs, evCor, evCand, evAnd, evOr, evKs, ev, killE, backE, opR, opX, partOk, partD, argO, plainA, fnSh, isa1, mtTy, muTy, pathO, setPath, snd2, putFO, posF, fieldD, eqTy, callR, makeR, mkT, iosOf, evens, odds, flatS, Res.noX, rangeD, Fl.whl, phi, List.lookup, putD, PySem.sizeLine_eq, stO, look_pos, kind_large, kind_cells, kind_rest, kind_turn, pos_large, pos_cells, pos_rest, pos_turn, hr', q_eqd_ii]
      simp [runF, evSs, evS, evI, evA, evL, evAs, evC, evCs, evCor, evCand, evAnd, evOr, evKs, ev, killE, backE, opR, opX, partOk, partD, argO, plainA, fnSh, isa1, mtTy, muTy, pathO, setPath, snd2, putFO, posF, fieldD, eqTy, callR, makeR, mkT, iosOf, evens, odds, flatS, Res.noX, rangeD, Fl.whl, phi, List.lookup, putD, PySem.sizeLine_eq, look_pos, kind_large, kind_cells, kind_rest, kind_turn, pos_large, pos_cells, pos_rest, pos_turn, h0, h1]
  obtain ⟨v, o', e, q⟩ := key
  exact ⟨v, o', (runD_eq (by rfl) (by rfl)).trans e, q⟩
end PV.K1
namespace PV.K1
open PySem L2 K01
@[simp] theorem taken_st {ls cs : List Int} {r t : Int} {i : Nat} {ρ : Env} : fetch.taken (stO ls cs r t) i ρ = ρ.set i none := rfl
@[simp] theorem ios_st {ls cs : List Int} {r t : Int} {os : List O} {o : O} {ρ : Env} : iosOf (stO ls cs r t :: os) (some o :: ρ) = (iosOf os ρ).map (o :: ·) := rfl
@[simp] theorem ios_lst {xs : List O} {os : List O} {o : O} {ρ : Env} : iosOf (.lst xs :: os) (some o :: ρ) = (iosOf os ρ).map (o :: ·) := rfl
theorem Gd.st {n : Nat} {o : O} (g : Gd n o) : ∃ ls cs r t, o = stO ls cs r t := by
  obtain ⟨ls, cs, r, t, e, _⟩ := g
  exact ⟨ls, cs, r, t, e⟩
abbrev intO (e : Int) : O := .d (.int e)
theorem atI_mem {α : Type} {xs : List α} {v : Int} (h0 : 0 ≤ v) (h1 : v < xs.length) : ∃ x ∈ xs, atI xs v = some x := by
  have hl : v.toNat < xs.length := by omega
  refine ⟨xs[v.toNat], List.getElem_mem _, ?_⟩
  have := atI_nat (xs := xs) (j := v.toNat) (v := xs[v.toNat]) (List.getElem?_eq_getElem hl)
  rwa [show ((v.toNat : Nat) : Int) = v by omega] at this
theorem atI_map {α β : Type} {f : α → β} {xs : List α} {v : Int} : atI (xs.map f) v = (atI xs v).map f := by
  unfold atI
  rw [List.length_map]
  cases ixN xs.length v <;> simp
theorem pick {n : Nat} {o : O} {es : List Int} (g : Gd n o) (hn : n < 2 ^ 31) (he : es ≠ []) (hl : es.length < 1000) : ∃ (e : Int) (o' : O), r_l_pick [o, .lst (es.map intO)] = .ok (.d (.int e)) [o', .lst (es.map intO)] ∧ e ∈ es ∧ Gd (n + 1) o' := by
  have hp : 0 < es.length := List.length_pos_iff.mpr he
  obtain ⟨v, o', e, v0, v1, g'⟩ := take (s := (es.length : Int)) g hn (by omega) (by omega)
  obtain ⟨ls, cs, r, t, rfl⟩ := g.st
  obtain ⟨x, hx, e2⟩ := atI_mem (xs := es) v0 v1
  refine ⟨x, o', (runD_eq (by rfl) (by rfl)).trans ?_, hx, g'⟩
  rw [bb_l_pick]
  simp [runF, evSs, evS, evI, evA, evL, evAs, evC, evCs, evCor, evCand, evAnd, evOr, evKs, ev, killE, backE, opR, opX, partOk, partD, argO, plainA, fnSh, isa1, mtTy, muTy, pathO, setPath, snd2, putFO, posF, fieldD, eqTy, callR, makeR, mkT, iosOf, evens, odds, flatS, Res.noX, rangeD, Fl.whl, phi, List.lookup, putD, PySem.sizeLine_eq, Function.comp_def, intO]
  simp [runF, evSs, evS, evI, evA, evL, evAs, evC, evCs, evCor, evCand, evAnd, evOr, evKs, ev, killE, backE, opR, opX, partOk, partD, argO, plainA, fnSh, isa1, mtTy, muTy, pathO, setPath, snd2, putFO, posF, fieldD, eqTy, callR, makeR, mkT, iosOf, evens, odds, flatS, Res.noX, rangeD, Fl.whl, phi, List.lookup, putD, PySem.sizeLine_eq, e, intO, atI_map, e2]
/-! ### names -/
abbrev abc : Str := "abcdefghijklmnopqrstuvwxyz"
structure NameOk (s : Str) : Prop where
  lo : 1 ≤ s.length
  hi : s.length ≤ 8
  ab : ∀ c ∈ s.cps.toList, c ∈ abc.cps.toList
def nameB (s : Str) : Bool := decide (1 ≤ s.length) && (decide (s.length ≤ 8) && s.cps.toList.all fun c => decide (c ∈ abc.cps.toList))
theorem nameB_ok {s : Str} (h : nameB s = true) : NameOk s := by
  unfold nameB at h
  simp only [Bool.and_eq_true, decide_eq_true_eq, List.all_eq_true] at h
  exact ⟨h.1, h.2.1, h.2.2⟩
def words : List Str := ["tree", "drop", "undo", "lasting", "ring", "room", "range", "periods", "fewest", "trees", "none", "ok", "no", "row", "more", "refused", "enough", "top", "end", "pair", "a", "b", "c"]
theorem words_ok : ∀ s ∈ words, NameOk s := by
  have h : (words.all nameB) = true := by decide +kernel
  exact fun s hs => nameB_ok (List.all_eq_true.mp h s hs)
abbrev w1 : Str := "tree drop undo lasting ring room range periods fewest trees none ok no row"
abbrev w2 : Str := " more refused enough top end pair a b c"
theorem w_split : Txt.split (w1 ++ w2) " " = words := by decide +kernel
theorem w_len1 : w1.length = 74 := by decide +kernel
theorem w_len2 : w2.length = 39 := by decide +kernel
theorem w_len12 : (w1 ++ w2).length = 113 := by decide +kernel
theorem words_len : words.length = 23 := by decide +kernel
theorem abc_len : abc.cps.toList.length = 26 := by decide +kernel
theorem abc_len' : abc.length = 26 := by decide +kernel
abbrev ch (c : Nat) : Str := ⟨#[c]⟩
abbrev strO (s : Str) : O := .d (.str s)
theorem strs_map : ∀ xs : List Str, strsD (xs.map .str) = some xs
  | [] => rfl
  | x :: xs => by rw [List.map_cons, strsD, strs_map xs]; rfl
theorem join_chs : ∀ cs : List Nat, Txt.join "" (cs.map ch) = ⟨cs.toArray⟩ := by
  have key : ∀ cs : List Nat, PySem.Str.join "" (cs.map ch) = ⟨cs.toArray⟩ := by
    intro cs
    induction cs with
    | nil => rfl
    | cons c cs ih =>
      cases cs with
      | nil => rfl
      | cons d cs =>
        show (ch c ++ Str.ofString "") ++ PySem.Str.join "" ((d :: cs).map ch) = _
        rw [ih]
        show (⟨(#[c] ++ (Str.ofString "").cps) ++ (d :: cs).toArray⟩ : Str) = _
        rw [show (Str.ofString "").cps = #[] from rfl]
        simp
  intro cs
  unfold Txt.join
  rw [StrLaws.glued_eq_join]
  exact key cs
theorem ch_lens : ∀ cs : List Nat, ((cs.map ch).map (·.length)).sum = cs.length
  | [] => rfl
  | c :: cs => by
    rw [List.map_cons, List.map_cons, List.sum_cons, ch_lens cs]
    show 1 + cs.length = cs.length + 1
    omega
theorem name_letters {f : D → Env → Res (Option O)} {w y z : Option O}
    (h : ∀ n o x, Gd n o → n < 2 ^ 31 → ∃ (c : Nat) (o' : O), f x [some o, w, y, z, none] = .ok (some (strO (ch c))) [some o', w, y, z, none] ∧ c ∈ abc.cps.toList ∧ Gd (n + 1) o') :
    ∀ (xs : List D) (n : Nat) (o : O), Gd n o → n + xs.length < 2 ^ 31 → ∃ (cs : List Nat) (o' : O), compL f xs [some o, w, y, z, none] = .ok (cs.map fun c => strO (ch c)) [some o', w, y, z, none] ∧ cs.length = xs.length ∧ (∀ c ∈ cs, c ∈ abc.cps.toList) ∧ Gd (n + xs.length) o'
  | [], n, o, g, _ => ⟨[], o, rfl, rfl, (fun c hc => by cases hc), g⟩
  | x :: xs, n, o, g, hn => by
    rw [List.length_cons] at hn
    obtain ⟨c, o1, e1, hc, g1⟩ := h n o x g (by omega)
    obtain ⟨cs, o2, e2, hl, hcs, g2⟩ := name_letters h xs (n + 1) o1 g1 (by omega)
    refine ⟨c :: cs, o2, ?_, by simp [hl], fun d hd => ?_, g2.mono (by simp; omega)⟩
    · rw [compL, e1]
      simp only [Res.bind_ok]
      rw [e2]
      rfl
    · rcases List.mem_cons.mp hd with q | q
      · rw [q]; exact hc
      · exact hcs d q
theorem name {n : Nat} {o : O} (g : Gd n o) (hn : n < 2 ^ 30) : ∃ (s : Str) (o' : O), r_l_name [o] = .ok (.d (.str s)) [o'] ∧ NameOk s ∧ Gd (n + 10) o' := by
  obtain ⟨v, o1, e1, v0, v1, g1⟩ := take (s := 40) g (by omega) (by omega) (by omega)
  obtain ⟨ls, cs, r, t, rfl⟩ := g.st
  by_cases hv : v < 23
  · obtain ⟨x, hx, e2⟩ := atI_mem (xs := words) v0 (by rw [words_len]; omega)
    refine ⟨x, o1, (runD_eq (by rfl) (by rfl)).trans ?_, words_ok x hx, g1.mono (by omega)⟩
    rw [bb_l_name]
    have hsp : ((Str.ofString " ").length == 0) = false := by decide +kernel
    simp [runF, evSs, evS, evI, evA, evL, evAs, evC, evCs, evCor, evCand, evAnd, evOr, evKs, ev, killE, backE, opR, opX, partOk, partD, argO, plainA, fnSh, isa1, mtTy, muTy, pathO, setPath, snd2, putFO, posF, fieldD, eqTy, callR, makeR, mkT, iosOf, evens, odds, flatS, Res.noX, rangeD, Fl.whl, phi, List.lookup, putD, PySem.sizeLine_eq, w_len1, w_len2, w_len12, w_split, hsp, Function.comp_def]
    simp [runF, evSs, evS, evI, evA, evL, evAs, evC, evCs, evCor, evCand, evAnd, evOr, evKs, ev, killE, backE, opR, opX, partOk, partD, argO, plainA, fnSh, isa1, mtTy, muTy, pathO, setPath, snd2, putFO, posF, fieldD, eqTy, callR, makeR, mkT, iosOf, evens, odds, flatS, Res.noX, rangeD, Fl.whl, phi, List.lookup, putD, PySem.sizeLine_eq, e1, Function.comp_def, words_len, hv, atI_map, e2]
  · obtain ⟨v2, o2, e2, v20, v21, g2⟩ := take (s := 8) g1 (by omega) (by omega) (by omega)
    obtain ⟨ls1, cs1, r1, t1, rfl⟩ := g1.st
    have hn2 : v2.toNat < 8 := by omega
    obtain ⟨cs2, o3, e3, l3, hc3, g3⟩ := name_letters (w := some (.lst (words.map strO))) (y := some (.d (.int v))) (z := some (.d (.str abc)))
      (f := fun x ρ => bnd (asgT (.nm 4) x ρ) fun ρ => (evCs (phi [(22, r_l_take)]) [] ρ).bind fun b ρ => tst b ((ev (phi [(22, r_l_take)]) ce_l_name_1 ρ).bind fun o ρ => .ok (some o) (killE [4] ρ)) (.ok none (killE [4] ρ)))
      (fun n o x g hn => by
        obtain ⟨u, o1, e1, u0, u1, g1⟩ := take (s := 26) g hn (by omega) (by omega)
        obtain ⟨ls, cs, r, t, rfl⟩ := g.st
        obtain ⟨c, hc, e2⟩ := atI_mem (xs := abc.cps.toList) u0 (by rw [abc_len]; omega)
        refine ⟨c, o1, ?_, hc, g1⟩
        simp [runF, evSs, evS, evI, evA, evL, evAs, evC, evCs, evCor, evCand, evAnd, evOr, evKs, ev, killE, backE, opR, opX, partOk, partD, argO, plainA, fnSh, isa1, mtTy, muTy, pathO, setPath, snd2, putFO, posF, fieldD, eqTy, callR, makeR, mkT, iosOf, evens, odds, flatS, Res.noX, rangeD, Fl.whl, phi, List.lookup, putD, PySem.sizeLine_eq, ce_l_name_1]
        simp [runF, evSs, evS, evI, evA, evL, evAs, evC, evCs, evCor, evCand, evAnd, evOr, evKs, ev, killE, backE, opR, opX, partOk, partD, argO, plainA, fnSh, isa1, mtTy, muTy, pathO, setPath, snd2, putFO, posF, fieldD, eqTy, callR, makeR, mkT, iosOf, evens, odds, flatS, Res.noX, rangeD, Fl.whl, phi, List.lookup, putD, PySem.sizeLine_eq, e1, abc_len', e2]) (rangeL 0 (1 + v2).toNat) (n + 1 + 1) o2 g2 (by simp [rangeL]; omega)
    have l3' : cs2.length = (1 + v2).toNat := by rw [l3]; simp [rangeL]
    refine ⟨⟨cs2.toArray⟩, o3, (runD_eq (by rfl) (by rfl)).trans ?_, ⟨?_, ?_, ?_⟩, g3.mono (by simp [rangeL]; omega)⟩
    · rw [bb_l_name]
      have hsp : ((Str.ofString " ").length == 0) = false := by decide +kernel
      have h0 : (Str.ofString "").length = 0 := rfl
      have hs : cs2.length ≤ 16777216 := by omega
      obtain ⟨ls2, cs2', r2, t2, rfl⟩ := g2.st
      have hm : cs2.map (fun c => D.str (ch c)) = (cs2.map ch).map D.str := by simp
      have hr : -4611686018427387904 ≤ 1 + v2 ∧ 1 + v2 ≤ 16777216 := by omega
      simp [runF, evSs, evS, evI, evA, evL, evAs, evC, evCs, evCor, evCand, evAnd, evOr, evKs, ev, killE, backE, opR, opX, partOk, partD, argO, plainA, fnSh, isa1, mtTy, muTy, pathO, setPath, snd2, putFO, posF, fieldD, eqTy, callR, makeR, mkT, iosOf, evens, odds, flatS, Res.noX, rangeD, Fl.whl, phi, List.lookup, putD, PySem.sizeLine_eq] at e3
      simp [runF, evSs, evS, evI, evA, evL, evAs, evC, evCs, evCor, evCand, evAnd, evOr, evKs, ev, killE, backE, opR, opX, partOk, partD, argO, plainA, fnSh, isa1, mtTy, muTy, pathO, setPath, snd2, putFO, posF, fieldD, eqTy, callR, makeR, mkT, iosOf, evens, odds, flatS, Res.noX, rangeD, Fl.whl, phi, List.lookup, putD, PySem.sizeLine_eq, w_len1, w_len2, w_len12, w_split, hsp, Function.comp_def]
      simp [runF, evSs, evS, evI, evA, evL, evAs, evC, evCs, evCor, evCand, evAnd, evOr, evKs, ev, killE, backE, opR, opX, partOk, partD, argO, plainA, fnSh, isa1, mtTy, muTy, pathO, setPath, snd2, putFO, posF, fieldD, eqTy, callR, makeR, mkT, iosOf, evens, odds, flatS, Res.noX, rangeD, Fl.whl, phi, List.lookup, putD, PySem.sizeLine_eq, e1, Function.comp_def, words_len, hv]
      simp [runF, evSs, evS, evI, evA, evL, evAs, evC, evCs, evCor, evCand, evAnd, evOr, evKs, ev, killE, backE, opR, opX, partOk, partD, argO, plainA, fnSh, isa1, mtTy, muTy, pathO, setPath, snd2, putFO, posF, fieldD, eqTy, callR, makeR, mkT, iosOf, evens, odds, flatS, Res.noX, rangeD, Fl.whl, phi, List.lookup, putD, PySem.sizeLine_eq, e2, e3, hr]
      have hm2 : List.map (O.frz ∘ fun c => strO (ch c)) cs2 = (cs2.map ch).map D.str := by simp [Function.comp_def]
      simp only [hm2, strs_map, ch_lens, join_chs, h0, Nat.mul_zero, Nat.add_zero, if_pos hs]
      simp [runF, evSs, evS, evI, evA, evL, evAs, evC, evCs, evCor, evCand, evAnd, evOr, evKs, ev, killE, backE, opR, opX, partOk, partD, argO, plainA, fnSh, isa1, mtTy, muTy, pathO, setPath, snd2, putFO, posF, fieldD, eqTy, callR, makeR, mkT, iosOf, evens, odds, flatS, Res.noX, rangeD, Fl.whl, phi, List.lookup, putD, PySem.sizeLine_eq]
    · show 1 ≤ cs2.toArray.size
      simp [l3']; omega
    · show cs2.toArray.size ≤ 8
      simp [l3']; omega
    · intro c hc
      exact hc3 c (by simpa using hc)
end PV.K1
namespace PV.K1
open PySem L2 K01
theorem comp_fil {α : Type} {f : D → Env → Res (Option O)} {a : α → D} {p : α → Bool} {g : α → O} {ρ : Env} : ∀ {xs : List α}, (∀ x ∈ xs, f (a x) ρ = .ok (if p x then some (g x) else none) ρ) → compL f (xs.map a) ρ = .ok ((xs.filter p).map g) ρ
  | [], _ => rfl
  | x :: xs, h => by
    rw [List.map_cons, compL, h x List.mem_cons_self]
    simp only [Res.bind_ok]
    rw [comp_fil fun y hy => h y (List.mem_cons_of_mem _ hy), List.filter_cons]
    cases p x <;> rfl
theorem comp_map {α : Type} {f : D → Env → Res (Option O)} {a : α → D} {g : α → O} {ρ : Env} {xs : List α} (h : ∀ x ∈ xs, f (a x) ρ = .ok (some (g x)) ρ) : compL f (xs.map a) ρ = .ok (xs.map g) ρ := by
  have := comp_fil (f := f) (a := a) (p := fun _ => true) (g := g) (ρ := ρ) (xs := xs) (by simpa using h)
  rwa [List.filter_eq_self.mpr (by simp)] at this
@[simp] theorem atI_zero {α : Type} {x : α} {xs : List α} : atI (x :: xs) 0 = some x := atI_nat (j := 0) rfl
theorem okd_str {n : Nat} {s : Str} : D.okd n (.str s) = true := by cases n <;> rw [D.okd]
theorem okd_strs {n : Nat} : ∀ xs : List Str, D.okdL n (xs.map .str) = true
  | [] => by rw [List.map_nil, D.okdL]
  | x :: xs => by rw [List.map_cons, D.okdL, okd_strs xs, okd_str]; rfl
theorem eqd_ss {s t : Str} : D.eqd (.str s) (.str t) = decide (s = t) := by
  rw [D.eqd]
  rfl
theorem any_str {s : Str} {fs : List Str} : (fs.any fun x => D.eqd (.str x) (.str s)) = decide (s ∈ fs) := by
  induction fs with
  | nil => rfl
  | cons x fs ih =>
    rw [List.any_cons, ih, eqd_ss]
    by_cases h : x = s
    · subst h; simp
    · have h' : ¬ s = x := fun z => h z.symm
      simp [h, h']
def spares : List Str := abc.cps.toList.map fun c => (Str.ofString "z") ++ ch c
theorem spares_len : spares.length = 26 := by decide +kernel
theorem spares_nd : spares.Nodup := by decide +kernel
theorem spares_ok : ∀ s ∈ spares, NameOk s := by
  have h : (spares.all nameB) = true := by decide +kernel
  exact fun s hs => nameB_ok (List.all_eq_true.mp h s hs)
theorem spare_left {fs : List Str} (h : fs.length < 26) : ∃ x r, spares.filter (fun s => decide (s ∉ fs)) = x :: r ∧ x ∈ spares ∧ x ∉ fs := by
  cases e : spares.filter (fun s => decide (s ∉ fs)) with
  | nil =>
    have hs : spares ⊆ fs := fun x hx => by
      have := List.filter_eq_nil_iff.mp e x hx
      simpa using this
    have := spares_nd.length_le_of_subset hs
    rw [spares_len] at this
    omega
  | cons x r =>
    have hm : x ∈ spares.filter (fun s => decide (s ∉ fs)) := by rw [e]; exact List.mem_cons_self
    have := List.mem_filter.mp hm
    exact ⟨x, r, rfl, this.1, by simpa using this.2⟩
noncomputable abbrev ΦN : Phi := phi [(24, r_l_name)]
theorem names_step {n : Nat} {o : O} {fs : List Str} {k nm many : Option O} {x : D} (g : Gd n o) (hn : n < 2 ^ 29) (hf : fs.length < 26) : ∃ (s : Str) (o' : O) (k' nm' : Option O), 
    (bnd (asgT (.nm 4) x [some o, many, some (.lst (fs.map strO)), some (.lst (spares.map strO)), k, nm, none, none]) fun ρ => evSs ΦN lb_l_names_1 ρ) = .ok .nx [some o', many, some (.lst ((fs ++ [s]).map strO)), some (.lst (spares.map strO)), k', nm', none, none] ∧ NameOk s ∧ s ∉ fs ∧ Gd (n + 10) o' := by
  obtain ⟨s, o1, e1, hs, g1⟩ := name g (by omega)
  obtain ⟨ls, cs, r, t, rfl⟩ := g.st
  have hfl : fs.length < 16777216 := by omega
  by_cases h : s ∈ fs
  · obtain ⟨z, r2, ez, z1, z2⟩ := spare_left hf
    refine ⟨z, o1, some (.d x), some (strO z), ?_, spares_ok z z1, z2, g1⟩
    have ec : compL (fun x ρ => bnd (asgT (.nm 7) x ρ) fun ρ => (evCs ΦN ci_l_names_1 ρ).bind fun b ρ => tst b ((ev ΦN ce_l_names_2 ρ).bind fun o ρ => .ok (some o) (killE [7] ρ)) (.ok none (killE [7] ρ))) (spares.map .str) [some o1, many, some (.lst (fs.map strO)), none, some (.d x), some (.d (.str s)), none, none] = .ok ((z :: r2).map strO) [some o1, many, some (.lst (fs.map strO)), none, some (.d x), some (.d (.str s)), none, none] := by
      rw [comp_fil (p := fun s => decide (s ∉ fs)) (g := strO), ez]
      intro y hy
      simp [runF, evSs, evS, evI, evA, evL, evAs, evC, evCs, evCor, evCand, evAnd, evOr, evKs, ev, killE, backE, opR, opX, partOk, partD, argO, plainA, fnSh, isa1, mtTy, muTy, pathO, setPath, snd2, putFO, posF, fieldD, eqTy, callR, makeR, mkT, iosOf, evens, odds, flatS, Res.noX, rangeD, Fl.whl, phi, List.lookup, putD, PySem.sizeLine_eq, ci_l_names_1, ce_l_names_2, Function.comp_def, okd_str, okd_strs, any_str]
      by_cases hy : y ∈ fs <;> simp [runF, evSs, evS, evI, evA, evL, evAs, evC, evCs, evCor, evCand, evAnd, evOr, evKs, ev, killE, backE, opR, opX, partOk, partD, argO, plainA, fnSh, isa1, mtTy, muTy, pathO, setPath, snd2, putFO, posF, fieldD, eqTy, callR, makeR, mkT, iosOf, evens, odds, flatS, Res.noX, rangeD, Fl.whl, phi, List.lookup, putD, PySem.sizeLine_eq, hy, Function.comp_def]
    simp [runF, evSs, evS, evI, evA, evL, evAs, evC, evCs, evCor, evCand, evAnd, evOr, evKs, ev, killE, backE, opR, opX, partOk, partD, argO, plainA, fnSh, isa1, mtTy, muTy, pathO, setPath, snd2, putFO, posF, fieldD, eqTy, callR, makeR, mkT, iosOf, evens, odds, flatS, Res.noX, rangeD, Fl.whl, phi, List.lookup, putD, PySem.sizeLine_eq, lb_l_names_1]
    simp [runF, evSs, evS, evI, evA, evL, evAs, evC, evCs, evCor, evCand, evAnd, evOr, evKs, ev, killE, backE, opR, opX, partOk, partD, argO, plainA, fnSh, isa1, mtTy, muTy, pathO, setPath, snd2, putFO, posF, fieldD, eqTy, callR, makeR, mkT, iosOf, evens, odds, flatS, Res.noX, rangeD, Fl.whl, phi, List.lookup, putD, PySem.sizeLine_eq, e1, Function.comp_def, okd_str, okd_strs, any_str, h]
    simp [runF, evSs, evS, evI, evA, evL, evAs, evC, evCs, evCor, evCand, evAnd, evOr, evKs, ev, killE, backE, opR, opX, partOk, partD, argO, plainA, fnSh, isa1, mtTy, muTy, pathO, setPath, snd2, putFO, posF, fieldD, eqTy, callR, makeR, mkT, iosOf, evens, odds, flatS, Res.noX, rangeD, Fl.whl, phi, List.lookup, putD, PySem.sizeLine_eq] at ec
    simp [runF, evSs, evS, evI, evA, evL, evAs, evC, evCs, evCor, evCand, evAnd, evOr, evKs, ev, killE, backE, opR, opX, partOk, partD, argO, plainA, fnSh, isa1, mtTy, muTy, pathO, setPath, snd2, putFO, posF, fieldD, eqTy, callR, makeR, mkT, iosOf, evens, odds, flatS, Res.noX, rangeD, Fl.whl, phi, List.lookup, putD, PySem.sizeLine_eq, ec, Function.comp_def]
    simp [runF, evSs, evS, evI, evA, evL, evAs, evC, evCs, evCor, evCand, evAnd, evOr, evKs, ev, killE, backE, opR, opX, partOk, partD, argO, plainA, fnSh, isa1, mtTy, muTy, pathO, setPath, snd2, putFO, posF, fieldD, eqTy, callR, makeR, mkT, iosOf, evens, odds, flatS, Res.noX, rangeD, Fl.whl, phi, List.lookup, putD, PySem.sizeLine_eq, hfl]
  · refine ⟨s, o1, some (.d x), some (strO s), ?_, hs, h, g1⟩
    simp [runF, evSs, evS, evI, evA, evL, evAs, evC, evCs, evCor, evCand, evAnd, evOr, evKs, ev, killE, backE, opR, opX, partOk, partD, argO, plainA, fnSh, isa1, mtTy, muTy, pathO, setPath, snd2, putFO, posF, fieldD, eqTy, callR, makeR, mkT, iosOf, evens, odds, flatS, Res.noX, rangeD, Fl.whl, phi, List.lookup, putD, PySem.sizeLine_eq, lb_l_names_1]
    simp [runF, evSs, evS, evI, evA, evL, evAs, evC, evCs, evCor, evCand, evAnd, evOr, evKs, ev, killE, backE, opR, opX, partOk, partD, argO, plainA, fnSh, isa1, mtTy, muTy, pathO, setPath, snd2, putFO, posF, fieldD, eqTy, callR, makeR, mkT, iosOf, evens, odds, flatS, Res.noX, rangeD, Fl.whl, phi, List.lookup, putD, PySem.sizeLine_eq, e1, Function.comp_def, okd_str, okd_strs, any_str, h, hfl]
theorem names_loop {many : Option O} : ∀ (xs : List D) (n : Nat) (o : O) (fs : List Str) (k nm : Option O), Gd n o → n + 10 * xs.length < 2 ^ 29 → fs.length + xs.length ≤ 12 → fs.Nodup → (∀ s ∈ fs, NameOk s) →
    ∃ (gs : List Str) (o' : O) (k' nm' : Option O), forL (fun x ρ => bnd (asgT (.nm 4) x ρ) fun ρ => evSs ΦN lb_l_names_1 ρ) xs [some o, many, some (.lst (fs.map strO)), some (.lst (spares.map strO)), k, nm, none, none] = .ok .nx [some o', many, some (.lst (gs.map strO)), some (.lst (spares.map strO)), k', nm', none, none] ∧
      gs.length = fs.length + xs.length ∧ gs.Nodup ∧ (∀ s ∈ gs, NameOk s) ∧ Gd (n + 10 * xs.length) o'
  | [], n, o, fs, k, nm, g, _, _, nd, hk => ⟨fs, o, k, nm, rfl, rfl, nd, hk, g⟩
  | x :: xs, n, o, fs, k, nm, g, hn, hl, nd, hk => by
    rw [List.length_cons] at hn hl
    obtain ⟨s, o1, k1, nm1, e1, h1, h2, g1⟩ := names_step (k := k) (nm := nm) (many := many) (x := x) (fs := fs) g (by omega) (by omega)
    obtain ⟨gs, o2, k2, nm2, e2, h3, h4, h5, g2⟩ := names_loop xs (n + 10) o1 (fs ++ [s]) k1 nm1 g1 (by omega) (by simp; omega) (by
      rw [List.nodup_append]
      exact ⟨nd, by simp, fun a ha b hb => by
        rw [List.mem_singleton.mp hb]
        exact fun z => h2 (z ▸ ha)⟩) (fun a ha => by
      rcases List.mem_append.mp ha with q | q
      · exact hk a q
      · rw [List.mem_singleton.mp q]; exact h1)
    refine ⟨gs, o2, k2, nm2, ?_, by simp at h3; simp; omega, h4, h5, g2.mono (by simp; omega)⟩
    rw [forL, e1]
    exact e2
theorem names {n : Nat} {o : O} {m : Int} (g : Gd n o) (hn : n < 2 ^ 28) (h0 : 0 ≤ m) (h1 : m < 13) : ∃ (gs : List Str) (o' : O), r_l_names [o, .d (.int m)] = .ok (.lst (gs.map strO)) [o', .d (.int m)] ∧ gs.length ≤ 12 ∧ gs.Nodup ∧ (∀ s ∈ gs, NameOk s) ∧ Gd (n + 120) o' := by
  obtain ⟨gs, o2, k2, nm2, e2, h3, h4, h5, g2⟩ := names_loop (many := some (.d (.int m))) (rangeL 0 m.toNat) n o [] none none g (by simp [rangeL]; omega) (by simp [rangeL]; omega) List.nodup_nil (fun s hs => by cases hs)
  obtain ⟨ls, cs, r, t, rfl⟩ := g.st
  have hl : gs.length ≤ 12 := by rw [h3]; simp [rangeL]; omega
  refine ⟨gs, o2, (runD_eq (by rfl) (by rfl)).trans ?_, hl, h4, h5, g2.mono (by simp [rangeL]; omega)⟩
  rw [bb_l_names]
  have ec : compL (fun x ρ => bnd (asgT (.nm 6) x ρ) fun ρ => (evCs ΦN [] ρ).bind fun b ρ => tst b ((ev ΦN ce_l_names_1 ρ).bind fun o ρ => .ok (some o) (killE [6] ρ)) (.ok none (killE [6] ρ))) (abc.cps.toList.map fun c => .str ⟨#[c]⟩) [some (stO ls cs r t), some (.d (.int m)), none, none, none, none, none, none] = .ok (spares.map strO) [some (stO ls cs r t), some (.d (.int m)), none, none, none, none, none, none] := by
    rw [comp_map (g := fun c => strO ((Str.ofString "z") ++ ch c))]
    · unfold spares
      rw [List.map_map]
      rfl
    · intro c _
      have h1 : (Str.ofString "z").length = 1 := rfl
      have h2 : (ch c).length = 1 := rfl
      simp [runF, evSs, evS, evI, evA, evL, evAs, evC, evCs, evCor, evCand, evAnd, evOr, evKs, ev, killE, backE, opR, opX, partOk, partD, argO, plainA, fnSh, isa1, mtTy, muTy, pathO, setPath, snd2, putFO, posF, fieldD, eqTy, callR, makeR, mkT, iosOf, evens, odds, flatS, Res.noX, rangeD, Fl.whl, phi, List.lookup, putD, PySem.sizeLine_eq, ce_l_names_1, h1, h2]
  have hr : -4611686018427387904 ≤ m ∧ m ≤ 16777216 := by omega
  simp [runF, evSs, evS, evI, evA, evL, evAs, evC, evCs, evCor, evCand, evAnd, evOr, evKs, ev, killE, backE, opR, opX, partOk, partD, argO, plainA, fnSh, isa1, mtTy, muTy, pathO, setPath, snd2, putFO, posF, fieldD, eqTy, callR, makeR, mkT, iosOf, evens, odds, flatS, Res.noX, rangeD, Fl.whl, phi, List.lookup, putD, PySem.sizeLine_eq] at ec e2
  simp [runF, evSs, evS, evI, evA, evL, evAs, evC, evCs, evCor, evCand, evAnd, evOr, evKs, ev, killE, backE, opR, opX, partOk, partD, argO, plainA, fnSh, isa1, mtTy, muTy, pathO, setPath, snd2, putFO, posF, fieldD, eqTy, callR, makeR, mkT, iosOf, evens, odds, flatS, Res.noX, rangeD, Fl.whl, phi, List.lookup, putD, PySem.sizeLine_eq, ec, abc_len', Function.comp_def]
  simp [runF, evSs, evS, evI, evA, evL, evAs, evC, evCs, evCor, evCand, evAnd, evOr, evKs, ev, killE, backE, opR, opX, partOk, partD, argO, plainA, fnSh, isa1, mtTy, muTy, pathO, setPath, snd2, putFO, posF, fieldD, eqTy, callR, makeR, mkT, iosOf, evens, odds, flatS, Res.noX, rangeD, Fl.whl, phi, List.lookup, putD, PySem.sizeLine_eq, e2, hr]
end PV.K1
namespace PV.K1
open PySem L2 K01
/-! ### walks -/
abbrev Ent : Type := Str × Bool
def entD (e : Ent) : D := .tup [.str e.1, .int (if e.2 then 1 else 0)]
def walkO (w : List Ent) : O := .lst (w.map fun e => .d (entD e))
def dl (e : Ent) : Int := if e.2 then -1 else 1
def dep : Int → List Ent → Int
  | d, [] => d
  | d, e :: b => dep (d + dl e) b
def okp : Int → List Ent → Prop
  | _, [] => True
  | d, e :: b => 0 ≤ d + dl e ∧ okp (d + dl e) b
theorem dep_snoc : ∀ (b : List Ent) (d : Int) (e : Ent), dep d (b ++ [e]) = dep d b + dl e
  | [], d, e => rfl
  | x :: b, d, e => dep_snoc b (d + dl x) e
theorem okp_snoc : ∀ (b : List Ent) (d : Int) (e : Ent), okp d b → 0 ≤ dep d b + dl e → okp d (b ++ [e])
  | [], d, e, _, h => ⟨h, trivial⟩
  | x :: b, d, e, h, h2 => ⟨h.1, okp_snoc b (d + dl x) e h.2 h2⟩
def stp (s : List Str) (e : Ent) : Option (List Str) := if e.2 then (match s with
  | y :: s' => if y = e.1 then some s' else none
  | [] => none) else some (e.1 :: s)
def runW : List Ent → List Str → Option (List Str)
  | [], s => some s
  | e :: w, s => (stp s e).bind (runW w)
theorem runW_append : ∀ (a b : List Ent) (s : List Str), runW (a ++ b) s = (runW a s).bind (runW b)
  | [], b, s => rfl
  | e :: a, b, s => by
    show (stp s e).bind (runW (a ++ b)) = ((stp s e).bind (runW a)).bind (runW b)
    cases stp s e with
    | none => rfl
    | some t => exact runW_append a b t
theorem stp_frame {u v s : List Str} {e : Ent} (h : stp u e = some v) : stp (u ++ s) e = some (v ++ s) := by
  unfold stp at h ⊢
  cases e2 : e.2 with
  | false =>
    rw [e2] at h
    cases h
    rfl
  | true =>
    rw [e2] at h
    cases u with
    | nil => cases h
    | cons y u =>
      have h : (if y = e.1 then some u else none) = some v := h
      show (if y = e.1 then some (u ++ s) else none) = some (v ++ s)
      by_cases q : y = e.1
      · rw [if_pos q] at h ⊢
        cases h
        rfl
      · rw [if_neg q] at h
        cases h
theorem run_frame : ∀ (b : List Ent) (u v s : List Str), runW b u = some v → runW b (u ++ s) = some (v ++ s)
  | [], u, v, s, h => by
    cases h
    rfl
  | e :: b, u, v, s, h => by
    have h : (stp u e).bind (runW b) = some v := h
    show (stp (u ++ s) e).bind (runW b) = some (v ++ s)
    cases q : stp u e with
    | none => rw [q] at h; cases h
    | some t =>
      rw [q] at h
      rw [stp_frame q]
      exact run_frame b t v s h
theorem bal_run : ∀ (b : List Ent) (u s t : List Str), runW b (u ++ s) = some t → okp (u.length : Int) b → ∃ v, t = v ++ s ∧ (v.length : Int) = dep (u.length : Int) b ∧ runW b u = some v
  | [], u, s, t, h, _ => by
    cases h
    exact ⟨u, rfl, rfl, rfl⟩
  | e :: b, u, s, t, h, o => by
    have h : (stp (u ++ s) e).bind (runW b) = some t := h
    obtain ⟨o1, o2⟩ := o
    cases e2 : e.2 with
    | false =>
      have q : ∀ u, stp u e = some (e.1 :: u) := fun u => by unfold stp; rw [e2]; rfl
      have d1 : ((u.length : Int) + dl e) = ((e.1 :: u).length : Int) := by unfold dl; rw [e2]; simp
      rw [q] at h
      rw [d1] at o2
      obtain ⟨v, h1, h2, h3⟩ := bal_run b (e.1 :: u) s t h o2
      exact ⟨v, h1, by rw [h2, ← d1]; rfl, by show (stp u e).bind (runW b) = _; rw [q]; exact h3⟩
    | true =>
      have dd : dl e = -1 := by unfold dl; rw [e2]; rfl
      cases u with
      | nil => rw [dd] at o1; simp at o1
      | cons y u =>
        have d1 : (((y :: u).length : Int) + dl e) = (u.length : Int) := by rw [dd]; simp; omega
        have q : ∀ u, stp (y :: u) e = if y = e.1 then some u else none := fun u => by unfold stp; rw [e2]; rfl
        rw [List.cons_append, q] at h
        by_cases hy : y = e.1
        · rw [if_pos hy] at h
          rw [d1] at o2
          obtain ⟨v, h1, h2, h3⟩ := bal_run b u s t h o2
          exact ⟨v, h1, by rw [h2, ← d1]; rfl, by show (stp (y :: u) e).bind (runW b) = _; rw [q, if_pos hy]; exact h3⟩
        · rw [if_neg hy] at h
          cases h
def opens (w : List Ent) : List Str := (w.filter fun e => !e.2).map (·.1)
/-- the part of a walk between two of its points where it may be put in brackets -/
def Bal (b : List Ent) : Prop := okp 0 b ∧ dep 0 b = 0
theorem weave {a b c : List Ent} {x : Str} (h : runW (a ++ (b ++ c)) [] = some []) (hb : Bal b) : runW (a ++ ((x, false) :: (b ++ ((x, true) :: c)))) [] = some [] := by
  rw [runW_append] at h ⊢
  cases ha : runW a [] with
  | none => rw [ha] at h; cases h
  | some s =>
    rw [ha] at h
    replace h : runW (b ++ c) s = some [] := h
    rw [runW_append] at h
    cases hbs : runW b s with
    | none => rw [hbs] at h; cases h
    | some t =>
      rw [hbs] at h
      replace h : runW c t = some [] := h
      obtain ⟨v, h1, h2, h3⟩ := bal_run b [] s t hbs hb.1
      have hv : v = [] := by
        have : (v.length : Int) = 0 := h2.trans hb.2
        exact List.eq_nil_of_length_eq_zero (by omega)
      subst hv
      replace h1 : t = s := h1
      subst h1
      have h4 : runW b (x :: t) = some (x :: t) := run_frame b [] [] (x :: t) h3
      show runW (b ++ ((x, true) :: c)) (x :: t) = some []
      rw [runW_append, h4]
      show (stp (x :: t) (x, true)).bind (runW c) = some []
      rw [show stp (x :: t) (x, true) = some t from (if_pos rfl : (if x = x then some t else none) = some t)]
      exact h
theorem weave_opens {a b c : List Ent} {x : Str} : (opens (a ++ ((x, false) :: (b ++ ((x, true) :: c))))).Perm (x :: opens (a ++ (b ++ c))) := by
  unfold opens
  simp only [List.filter_append, List.map_append, List.filter_cons, Bool.not_false, if_true, Bool.not_true, List.map_cons]
  exact List.perm_middle
/-! ### a name is woven into a walk -/
theorem ix_plain {α : Type} {f : α → D} {w : List α} {k : D} {r : O} : ixBack (.lst (w.map fun e => .d (f e))) k r = .lst (w.map fun e => .d (f e)) := by
  have hs : O.shal (.lst (w.map fun e => .d (f e))) = .lst (w.map fun e => .d (f e)) := by
    show O.lst _ = _
    rw [List.map_map]
    refine congrArg O.lst (List.map_congr_left fun e _ => ?_)
    exact congrArg O.d p_frz_d
  unfold ixBack
  split
  · rfl
  · cases k with
    | int i =>
      rw [q_stepl]
      cases q : ixN (w.map fun e => O.d (f e)).length i with
      | none => exact hs
      | some j =>
        cases q2 : (w.map fun e => O.d (f e))[j]? with
        | none => simp only [q2]; exact hs
        | some y =>
          simp only [q2]
          have hm := List.mem_of_getElem? q2
          obtain ⟨e, _, rfl⟩ := List.mem_map.mp hm
          refine congrArg O.lst ?_
          rw [p_frz_d]
          obtain ⟨hl, he⟩ := List.getElem?_eq_some_iff.mp q2
          rw [← he]
          exact List.set_getElem_self hl
    | _ => exact hs
theorem rangeL_succ {lo : Int} {n : Nat} : rangeL lo (n + 1) = .int lo :: rangeL (lo + 1) n := by
  unfold rangeL
  rw [List.range_succ_eq_map, List.map_cons, List.map_map]
  refine congr (congrArg List.cons (by simp)) (List.map_congr_left fun i _ => ?_)
  show D.int (lo + ((i + 1 : Nat) : Int)) = D.int (lo + 1 + (i : Int))
  congr 1
  omega
theorem atI_mid {α : Type} {a b : List α} {x : α} {i : Int} (h : i = a.length) : atI (a ++ x :: b) i = some x := by
  subst h
  exact atI_nat (by simp)
/-- an end that a name may have -/
def Cut (w a : List Ent) (e : Int) : Prop := ∃ b c, w = a ++ (b ++ c) ∧ e = ((a.length + b.length : Nat) : Int) ∧ Bal b
theorem woven_loop {Φ : Phi} {st nm gp ls : Option O} {w a : List Ent} (hw : w.length ≤ 100) : ∀ (r b : List Ent) (es : List Int) (at_ : Option O), w = a ++ (b ++ r) → okp 0 b → (∀ e ∈ es, Cut w a e) → es ≠ [] → es.length + r.length ≤ 200 →
    ∃ (es' : List Int) (d' at' : Option O), forL (fun x ρ => bnd (asgT (.nm 6) x ρ) fun ρ => evSs Φ lb_l_woven_1 ρ) (rangeL ((a.length + b.length : Nat) : Int) r.length) [st, some (walkO w), nm, gp, some (.d (.int (dep 0 b))), some (.lst (es.map intO)), at_, ls] = .ok .nx [st, some (walkO w), nm, gp, d', some (.lst (es'.map intO)), at', ls] ∧
      (∀ e ∈ es', Cut w a e) ∧ es' ≠ [] ∧ es'.length ≤ 200
  | [], b, es, at_, _, _, hc, hn, hl => ⟨es, _, at_, rfl, hc, hn, by simpa using hl⟩
  | e :: r, b, es, at_, hwe, ho, hc, hn, hl => by
    rw [List.length_cons] at hl ⊢
    rw [rangeL_succ, forL]
    obtain ⟨p, hp⟩ : ∃ p : Int, p = ((a.length + b.length : Nat) : Int) := ⟨_, rfl⟩
    rw [← hp]
    have hat : atI (w.map fun e => entD e) p = some (entD e) := by
      rw [atI_map, hwe, ← List.append_assoc, atI_mid (by rw [hp]; simp)]
      rfl
    have hix : idxD [entD e, .int 1] = some (intO (if e.2 then 1 else 0)) := rfl
    have hd : dep 0 b + 1 - 2 * (if e.2 then 1 else 0 : Int) = dep 0 (b ++ [e]) := by
      rw [dep_snoc]
      unfold dl
      cases e.2 <;> simp <;> omega
    have hwe' : w = a ++ ((b ++ [e]) ++ r) := by rw [hwe]; simp
    have hlen : p + 1 = ((a.length + (b ++ [e]).length : Nat) : Int) := by rw [hp]; simp; omega
    have hm : (2 : Int) < 18446744073709551616 := by decide
    have step : ∃ (F : Fl) (es1 : List Int), (bnd (asgT (.nm 6) (.int p) [st, some (walkO w), nm, gp, some (.d (.int (dep 0 b))), some (.lst (es.map intO)), at_, ls]) fun ρ => evSs Φ lb_l_woven_1 ρ) = .ok F [st, some (walkO w), nm, gp, some (.d (.int (dep 0 (b ++ [e])))), some (.lst (es1.map intO)), some (.d (.int p)), ls] ∧
        (∀ e ∈ es1, Cut w a e) ∧ es1 ≠ [] ∧ es1.length + r.length ≤ 200 ∧ (F = .bk ∨ F = .nx ∧ 0 ≤ dep 0 (b ++ [e])) := by
      by_cases h1 : dep 0 (b ++ [e]) < 0
      · refine ⟨.bk, es, ?_, hc, hn, by omega, .inl rfl⟩
        simp [runF, evSs, evS, evI, evA, evL, evAs, evC, evCs, evCor, evCand, evAnd, evOr, evKs, ev, killE, backE, opR, opX, partOk, partD, argO, plainA, fnSh, isa1, mtTy, muTy, pathO, setPath, snd2, putFO, posF, fieldD, eqTy, callR, makeR, mkT, iosOf, evens, odds, flatS, Res.noX, rangeD, Fl.whl, phi, List.lookup, putD, PySem.sizeLine_eq, lb_l_woven_1, walkO, ix_plain, Function.comp_def]
        simp [runF, evSs, evS, evI, evA, evL, evAs, evC, evCs, evCor, evCand, evAnd, evOr, evKs, ev, killE, backE, opR, opX, partOk, partD, argO, plainA, fnSh, isa1, mtTy, muTy, pathO, setPath, snd2, putFO, posF, fieldD, eqTy, callR, makeR, mkT, iosOf, evens, odds, flatS, Res.noX, rangeD, Fl.whl, phi, List.lookup, putD, PySem.sizeLine_eq, hat, hix, hd, h1]
      · by_cases h2 : dep 0 (b ++ [e]) = 0
        · refine ⟨.nx, es ++ [p + 1], ?_, fun z hz => ?_, by simp, by simp; omega, .inr ⟨rfl, by omega⟩⟩
          · have hl2 : es.length < 16777216 := by omega
            simp [runF, evSs, evS, evI, evA, evL, evAs, evC, evCs, evCor, evCand, evAnd, evOr, evKs, ev, killE, backE, opR, opX, partOk, partD, argO, plainA, fnSh, isa1, mtTy, muTy, pathO, setPath, snd2, putFO, posF, fieldD, eqTy, callR, makeR, mkT, iosOf, evens, odds, flatS, Res.noX, rangeD, Fl.whl, phi, List.lookup, putD, PySem.sizeLine_eq, lb_l_woven_1, walkO, ix_plain, Function.comp_def]
            simp [runF, evSs, evS, evI, evA, evL, evAs, evC, evCs, evCor, evCand, evAnd, evOr, evKs, ev, killE, backE, opR, opX, partOk, partD, argO, plainA, fnSh, isa1, mtTy, muTy, pathO, setPath, snd2, putFO, posF, fieldD, eqTy, callR, makeR, mkT, iosOf, evens, odds, flatS, Res.noX, rangeD, Fl.whl, phi, List.lookup, putD, PySem.sizeLine_eq, hat, hix, hd, h1, h2, q_eqd_ii, hl2]
          · rcases List.mem_append.mp hz with q | q
            · exact hc z q
            · rw [List.mem_singleton.mp q, hlen]
              exact ⟨b ++ [e], r, hwe', rfl, okp_snoc b 0 e ho (by rw [← dep_snoc]; omega), h2⟩
        · refine ⟨.nx, es, ?_, hc, hn, by omega, .inr ⟨rfl, by omega⟩⟩
          have h3 : (dep 0 (b ++ [e]) == 0) = false := by simpa using h2
          simp [runF, evSs, evS, evI, evA, evL, evAs, evC, evCs, evCor, evCand, evAnd, evOr, evKs, ev, killE, backE, opR, opX, partOk, partD, argO, plainA, fnSh, isa1, mtTy, muTy, pathO, setPath, snd2, putFO, posF, fieldD, eqTy, callR, makeR, mkT, iosOf, evens, odds, flatS, Res.noX, rangeD, Fl.whl, phi, List.lookup, putD, PySem.sizeLine_eq, lb_l_woven_1, walkO, ix_plain, Function.comp_def]
          simp [runF, evSs, evS, evI, evA, evL, evAs, evC, evCs, evCor, evCand, evAnd, evOr, evKs, ev, killE, backE, opR, opX, partOk, partD, argO, plainA, fnSh, isa1, mtTy, muTy, pathO, setPath, snd2, putFO, posF, fieldD, eqTy, callR, makeR, mkT, iosOf, evens, odds, flatS, Res.noX, rangeD, Fl.whl, phi, List.lookup, putD, PySem.sizeLine_eq, hat, hix, hd, h1, h3, q_eqd_ii]
    obtain ⟨F, es1, e1, h1, h2, h3, h4⟩ := step
    rw [e1]
    rcases h4 with rfl | ⟨rfl, h4⟩
    · exact ⟨es1, _, _, rfl, h1, h2, by omega⟩
    · rw [hlen]
      exact woven_loop hw r (b ++ [e]) es1 _ hwe' (okp_snoc b 0 e ho (by rw [← dep_snoc]; exact h4)) h1 h2 h3
end PV.K1
namespace PV.K1
open PySem L2 K01
@[simp] theorem taken_w {w : List Ent} {i : Nat} {ρ : Env} : fetch.taken (walkO w) i ρ = ρ.set i none := rfl
@[simp] theorem ios_w {w : List Ent} {os : List O} {o : O} {ρ : Env} : iosOf (walkO w :: os) (some o :: ρ) = (iosOf os ρ).map (o :: ·) := rfl
theorem frz_w {w : List Ent} : (walkO w).frz = .lst (w.map entD) := by
  unfold walkO
  rw [p_frz_lst, List.map_map]
  refine congrArg D.lst (List.map_congr_left fun e _ => p_frz_d)
theorem shal_w {w : List Ent} : (walkO w).shal = walkO w := by
  unfold walkO
  rw [p_shal_lst, List.map_map]
  refine congrArg O.lst (List.map_congr_left fun e _ => ?_)
  exact congrArg O.d p_frz_d
theorem cut_at {a b c : List Ent} {lo hi : Option Int} (h1 : HT.sIx (a ++ (b ++ c)).length 0 lo = a.length) (h2 : HT.sIx (a ++ (b ++ c)).length (a ++ (b ++ c)).length hi = a.length + b.length) : cutD ((a ++ (b ++ c)).map entD) lo hi = b.map entD := by
  unfold cutD
  rw [List.length_map, h1, h2, ← List.map_drop, ← List.map_take]
  simp
theorem sIx_pos {n d : Nat} {v : Int} (h0 : 0 ≤ v) (h1 : v ≤ n) : HT.sIx n d (some v) = v.toNat := by
  show (if v < 0 then (v + (n : Int)).toNat else min v.toNat n) = v.toNat
  rw [if_neg (by omega)]
  omega
noncomputable abbrev ΦW : Phi := phi [(22, r_l_take), (23, r_l_pick)]
theorem woven {n : Nat} {o : O} {w : List Ent} {x : Str} (g : Gd n o) (hn : n < 2 ^ 30) (hw : w.length ≤ 98) (hb : runW w [] = some []) : ∃ (w' : List Ent) (o' : O), r_l_woven [o, walkO w, .d (.str x)] = .ok (walkO w') [o', walkO w, .d (.str x)] ∧
    runW w' [] = some [] ∧ (opens w').Perm (x :: opens w) ∧ w'.length = w.length + 2 ∧ Gd (n + 2) o' := by
  obtain ⟨v, o1, e1, v0, v1, g1⟩ := take (s := (w.length : Int) + 1) g (by omega) (by omega) (by omega)
  obtain ⟨ls, cs, r, t, rfl⟩ := g.st
  obtain ⟨a, c0, hw0, hla⟩ : ∃ a c0, w = a ++ c0 ∧ (a.length : Int) = v := ⟨w.take v.toNat, w.drop v.toNat, by simp, by simp; omega⟩
  have hsp : w = a ++ ([] ++ c0) := hw0
  have hlw : w.length = a.length + c0.length := by rw [hw0]; simp
  have hlr : c0.length = ((w.length : Int) - v).toNat := by omega
  have hvv : ((a.length + ([] : List Ent).length : Nat) : Int) = v := by simpa using hla
  obtain ⟨es, d', at', e2, h1, h2, h3⟩ := woven_loop (Φ := ΦW) (st := some o1) (nm := some (.d (.str x))) (gp := some (.d (.int v))) (ls := none) (w := w) (a := a) (by omega) c0 [] [v] none hsp trivial (fun e he => by
    rw [List.mem_singleton.mp he]
    exact ⟨[], c0, hsp, hvv.symm, trivial, rfl⟩) (by simp) (by simp; omega)
  rw [hvv, hlr] at e2
  obtain ⟨e, o2, e3, he, g2⟩ := pick (es := es) g1 (by omega) h2 (by omega)
  obtain ⟨ls1, cs1, r1, t1, rfl⟩ := g1.st
  obtain ⟨b, c, hw2, hee, hbal⟩ := h1 e he
  have hl2 : w.length = a.length + (b.length + c.length) := by rw [hw2]; simp
  refine ⟨a ++ ((x, false) :: (b ++ ((x, true) :: c))), o2, (runD_eq (by rfl) (by rfl)).trans ?_, weave (by rw [← hw2]; exact hb) hbal, by rw [hw2]; exact weave_opens, by simp; omega, g2⟩
  rw [bb_l_woven]
  have hr : 0 ≤ v ∧ v ≤ 16777216 ∧ (w.length : Int) ≤ 16777216 := by omega
  have c1 : cutD (w.map entD) none (some v) = a.map entD := by
    rw [show w = [] ++ (a ++ c0) from hw0]
    refine cut_at rfl ?_
    rw [sIx_pos (by omega) (by simp; omega)]
    simp; omega
  have c2 : cutD (w.map entD) (some v) (some e) = b.map entD := by
    rw [hw2]
    refine cut_at ?_ ?_
    · rw [sIx_pos (by omega) (by simp; omega)]; omega
    · rw [sIx_pos (by omega) (by simp; omega)]; omega
  have c3 : cutD (w.map entD) (some e) none = c.map entD := by
    rw [show w = (a ++ b) ++ (c ++ []) by rw [hw2]; simp]
    refine cut_at ?_ ?_
    · rw [sIx_pos (by omega) (by simp; omega)]; simp; omega
    · rw [HT.sIx_none]; simp; omega
  have k3 : a.length + (b.length + 1) ≤ 16777215 := by omega
  have k1 : a.length + 1 ≤ 16777216 := by omega
  have k1' : a.length ≤ 16777215 := by omega
  have k2 : a.length + 1 + b.length ≤ 16777216 := by omega
  have k2' : a.length + (b.length + 1) ≤ 16777216 := by omega
  have k4 : a.length + (b.length + (c.length + 1)) ≤ 16777215 := by omega
  simp [runF, evSs, evS, evI, evA, evL, evAs, evC, evCs, evCor, evCand, evAnd, evOr, evKs, ev, killE, backE, opR, opX, partOk, partD, argO, plainA, fnSh, isa1, mtTy, muTy, pathO, setPath, snd2, putFO, posF, fieldD, eqTy, callR, makeR, mkT, iosOf, evens, odds, flatS, Res.noX, rangeD, Fl.whl, phi, List.lookup, putD, PySem.sizeLine_eq, frz_w] at e2
  simp [runF, evSs, evS, evI, evA, evL, evAs, evC, evCs, evCor, evCand, evAnd, evOr, evKs, ev, killE, backE, opR, opX, partOk, partD, argO, plainA, fnSh, isa1, mtTy, muTy, pathO, setPath, snd2, putFO, posF, fieldD, eqTy, callR, makeR, mkT, iosOf, evens, odds, flatS, Res.noX, rangeD, Fl.whl, phi, List.lookup, putD, PySem.sizeLine_eq, frz_w, shal_w]
  simp [runF, evSs, evS, evI, evA, evL, evAs, evC, evCs, evCor, evCand, evAnd, evOr, evKs, ev, killE, backE, opR, opX, partOk, partD, argO, plainA, fnSh, isa1, mtTy, muTy, pathO, setPath, snd2, putFO, posF, fieldD, eqTy, callR, makeR, mkT, iosOf, evens, odds, flatS, Res.noX, rangeD, Fl.whl, phi, List.lookup, putD, PySem.sizeLine_eq, e1, dep] at e2 ⊢
  simp [runF, evSs, evS, evI, evA, evL, evAs, evC, evCs, evCor, evCand, evAnd, evOr, evKs, ev, killE, backE, opR, opX, partOk, partD, argO, plainA, fnSh, isa1, mtTy, muTy, pathO, setPath, snd2, putFO, posF, fieldD, eqTy, callR, makeR, mkT, iosOf, evens, odds, flatS, Res.noX, rangeD, Fl.whl, phi, List.lookup, putD, PySem.sizeLine_eq, hr.1, hr.2.1, hr.2.2, frz_w, shal_w, e2]
  simp [runF, evSs, evS, evI, evA, evL, evAs, evC, evCs, evCor, evCand, evAnd, evOr, evKs, ev, killE, backE, opR, opX, partOk, partD, argO, plainA, fnSh, isa1, mtTy, muTy, pathO, setPath, snd2, putFO, posF, fieldD, eqTy, callR, makeR, mkT, iosOf, evens, odds, flatS, Res.noX, rangeD, Fl.whl, phi, List.lookup, putD, PySem.sizeLine_eq, frz_w, shal_w, e3, c1, c2, c3, k1, k1', k2, k2', k3, k4, Function.comp_def]
  rw [if_pos (by omega)]
  simp [runF, evSs, evS, evI, evA, evL, evAs, evC, evCs, evCor, evCand, evAnd, evOr, evKs, ev, killE, backE, opR, opX, partOk, partD, argO, plainA, fnSh, isa1, mtTy, muTy, pathO, setPath, snd2, putFO, posF, fieldD, eqTy, callR, makeR, mkT, iosOf, evens, odds, flatS, Res.noX, rangeD, Fl.whl, phi, List.lookup, putD, PySem.sizeLine_eq, walkO, entD, Function.comp_def]
noncomputable abbrev ΦL : Phi := phi [(26, r_l_woven)]
theorem walk_loop {nm0 : Option O} : ∀ (xs : List Str) (n : Nat) (o : O) (w : List Ent) (nm : Option O), Gd n o → n + 2 * xs.length < 2 ^ 30 → w.length + 2 * xs.length ≤ 98 → runW w [] = some [] →
    ∃ (w' : List Ent) (o' : O) (nm' : Option O), forL (fun x ρ => bnd (asgT (.nm 3) x ρ) fun ρ => evSs ΦL lb_l_walk_1 ρ) (xs.map .str) [some o, none, some (walkO w), nm] = .ok .nx [some o', none, some (walkO w'), nm'] ∧
      runW w' [] = some [] ∧ (opens w').Perm (opens w ++ xs) ∧ w'.length = w.length + 2 * xs.length ∧ Gd (n + 2 * xs.length) o'
  | [], n, o, w, nm, g, _, _, hb => ⟨w, o, nm, rfl, hb, by simp, by simp, g⟩
  | x :: xs, n, o, w, nm, g, hn, hl, hb => by
    rw [List.length_cons] at hn hl
    obtain ⟨w1, o1, e1, h1, h2, h3, g1⟩ := woven (x := x) g (by omega) (by omega) hb
    obtain ⟨w2, o2, nm2, e2, h4, h5, h6, g2⟩ := walk_loop (nm0 := nm0) xs (n + 2) o1 w1 (some (.d (.str x))) g1 (by omega) (by omega) h1
    obtain ⟨ls, cs, r, t, rfl⟩ := g.st
    refine ⟨w2, o2, nm2, ?_, h4, ?_, by rw [h6, h3, List.length_cons]; omega, g2.mono (by rw [List.length_cons]; omega)⟩
    · rw [List.map_cons, forL]
      have e : (bnd (asgT (.nm 3) (.str x) [some (stO ls cs r t), none, some (walkO w), nm]) fun ρ => evSs ΦL lb_l_walk_1 ρ) = .ok .nx [some o1, none, some (walkO w1), some (.d (.str x))] := by
        simp [runF, evSs, evS, evI, evA, evL, evAs, evC, evCs, evCor, evCand, evAnd, evOr, evKs, ev, killE, backE, opR, opX, partOk, partD, argO, plainA, fnSh, isa1, mtTy, muTy, pathO, setPath, snd2, putFO, posF, fieldD, eqTy, callR, makeR, mkT, iosOf, evens, odds, flatS, Res.noX, rangeD, Fl.whl, phi, List.lookup, putD, PySem.sizeLine_eq, lb_l_walk_1]
        simp [runF, evSs, evS, evI, evA, evL, evAs, evC, evCs, evCor, evCand, evAnd, evOr, evKs, ev, killE, backE, opR, opX, partOk, partD, argO, plainA, fnSh, isa1, mtTy, muTy, pathO, setPath, snd2, putFO, posF, fieldD, eqTy, callR, makeR, mkT, iosOf, evens, odds, flatS, Res.noX, rangeD, Fl.whl, phi, List.lookup, putD, PySem.sizeLine_eq, e1]
      rw [e]
      exact e2
    · refine h5.trans ((h2.append_right xs).trans ?_)
      exact List.perm_middle.symm
theorem walk {n : Nat} {o : O} {gs : List Str} (g : Gd n o) (hn : n < 2 ^ 29) (hl : gs.length ≤ 12) : ∃ (w : List Ent) (o' : O), r_l_walk [o, .lst (gs.map strO)] = .ok (walkO w) [o', .lst (gs.map strO)] ∧
    runW w [] = some [] ∧ (opens w).Perm gs ∧ w.length = 2 * gs.length ∧ Gd (n + 24) o' := by
  obtain ⟨w, o', nm', e, h1, h2, h3, g'⟩ := walk_loop (nm0 := none) gs n o [] none g (by omega) (by simp; omega) rfl
  obtain ⟨ls, cs, r, t, rfl⟩ := g.st
  refine ⟨w, o', (runD_eq (by rfl) (by rfl)).trans ?_, h1, by simpa [opens] using h2, by simpa using h3, g'.mono (by omega)⟩
  rw [bb_l_walk]
  rw [show walkO [] = .lst [] from rfl] at e
  simp [runF, evSs, evS, evI, evA, evL, evAs, evC, evCs, evCor, evCand, evAnd, evOr, evKs, ev, killE, backE, opR, opX, partOk, partD, argO, plainA, fnSh, isa1, mtTy, muTy, pathO, setPath, snd2, putFO, posF, fieldD, eqTy, callR, makeR, mkT, iosOf, evens, odds, flatS, Res.noX, rangeD, Fl.whl, phi, List.lookup, putD, PySem.sizeLine_eq] at e
  simp [runF, evSs, evS, evI, evA, evL, evAs, evC, evCs, evCor, evCand, evAnd, evOr, evKs, ev, killE, backE, opR, opX, partOk, partD, argO, plainA, fnSh, isa1, mtTy, muTy, pathO, setPath, snd2, putFO, posF, fieldD, eqTy, callR, makeR, mkT, iosOf, evens, odds, flatS, Res.noX, rangeD, Fl.whl, phi, List.lookup, putD, PySem.sizeLine_eq, Function.comp_def]
  simp [runF, evSs, evS, evI, evA, evL, evAs, evC, evCs, evCor, evCand, evAnd, evOr, evKs, ev, killE, backE, opR, opX, partOk, partD, argO, plainA, fnSh, isa1, mtTy, muTy, pathO, setPath, snd2, putFO, posF, fieldD, eqTy, callR, makeR, mkT, iosOf, evens, odds, flatS, Res.noX, rangeD, Fl.whl, phi, List.lookup, putD, PySem.sizeLine_eq, e]
end PV.K1
namespace PV.K1
open PySem L2 K01
/-! ### forests -/
inductive F where
  | nil
  | node (x : Str) (a b : F)
def F.walk : F → List Ent
  | .nil => []
  | .node x a b => (x, false) :: (a.walk ++ (x, true) :: b.walk)
def F.shape : F → List D
  | .nil => []
  | .node x a b => .tup [.str x, .tup a.shape] :: b.shape
def F.names : F → List Str
  | .nil => []
  | .node x a b => x :: (a.names ++ b.names)
def F.size : F → Nat
  | .nil => 0
  | .node _ a b => 1 + a.size + b.size
/-- how each name is hung, p above the whole -/
def F.pars (p : D) : F → List D
  | .nil => []
  | .node x a b => p :: (a.pars (.str x) ++ b.pars p)
theorem F.opens_walk : ∀ f : F, opens f.walk = f.names
  | .nil => rfl
  | .node x a b => by
    show opens ((x, false) :: (a.walk ++ (x, true) :: b.walk)) = x :: (a.names ++ b.names)
    rw [← F.opens_walk a, ← F.opens_walk b]
    unfold opens
    simp
theorem F.names_len : ∀ f : F, f.names.length = f.size
  | .nil => rfl
  | .node x a b => by
    show (x :: (a.names ++ b.names)).length = 1 + a.size + b.size
    rw [List.length_cons, List.length_append, F.names_len a, F.names_len b]
    omega
theorem F.walk_len : ∀ f : F, f.walk.length = 2 * f.size
  | .nil => rfl
  | .node x a b => by
    show ((x, false) :: (a.walk ++ (x, true) :: b.walk)).length = 2 * (1 + a.size + b.size)
    rw [List.length_cons, List.length_append, List.length_cons, F.walk_len a, F.walk_len b]
    omega
theorem F.pars_len {p : D} : ∀ f : F, (f.pars p).length = f.size
  | .nil => rfl
  | .node x a b => by
    show (p :: (a.pars (.str x) ++ b.pars p)).length = 1 + a.size + b.size
    rw [List.length_cons, List.length_append, F.pars_len a, F.pars_len b]
    omega
theorem F.shape_len : ∀ f : F, f.shape.length ≤ f.size
  | .nil => Nat.le_refl _
  | .node x a b => by
    show (D.tup [.str x, .tup a.shape] :: b.shape).length ≤ 1 + a.size + b.size
    rw [List.length_cons]
    have := F.shape_len b
    omega
def closes : List Str → List F → List Ent
  | x :: s, f :: fs => (x, true) :: (f.walk ++ closes s fs)
  | _, _ => []
theorem parse : ∀ (w : List Ent) (s : List Str), runW w s = some [] → ∃ (f : F) (fs : List F), fs.length = s.length ∧ w = f.walk ++ closes s fs
  | [], s, h => by
    cases h
    exact ⟨.nil, [], rfl, rfl⟩
  | (x, false) :: w, s, h => by
    replace h : runW w (x :: s) = some [] := h
    obtain ⟨f, fs, l, e⟩ := parse w (x :: s) h
    cases fs with
    | nil => simp at l
    | cons g fs =>
      refine ⟨.node x f g, fs, by simpa using l, ?_⟩
      rw [e]
      show (x, false) :: (f.walk ++ (x, true) :: (g.walk ++ closes s fs)) = ((x, false) :: (f.walk ++ (x, true) :: g.walk)) ++ closes s fs
      simp
  | (x, true) :: w, s, h => by
    cases s with
    | nil => cases h
    | cons y s =>
      have q : stp (y :: s) (x, true) = if y = x then some s else none := rfl
      replace h : (stp (y :: s) (x, true)).bind (runW w) = some [] := h
      rw [q] at h
      by_cases hy : y = x
      · rw [if_pos hy] at h
        subst hy
        obtain ⟨f, fs, l, e⟩ := parse w s h
        refine ⟨.nil, f :: fs, by simpa using l, ?_⟩
        rw [e]
        rfl
      · rw [if_neg hy] at h
        cases h
theorem parsed {w : List Ent} (h : runW w [] = some []) : ∃ f : F, w = f.walk := by
  obtain ⟨f, fs, l, e⟩ := parse w [] h
  exact ⟨f, by simpa [closes] using e⟩
/-! ### the shape of a walk -/
theorem ixN_last {n : Nat} : ixN (n + 1) (-1) = some n := by
  unfold ixN
  rw [if_neg (by omega), if_pos (by omega)]
  congr 1
  omega
theorem set_last {α : Type} {L : List α} {y z : α} : (L ++ [y]).set L.length z = L ++ [z] := by simp
@[simp] theorem map_frz_d {xs : List D} : xs.map (O.frz ∘ O.d) = xs := by
  rw [show O.frz ∘ O.d = id from funext fun x => p_frz_d, List.map_id]
theorem shape_open {Φ : Phi} {L os : List O} {x : Str} {n s i : Option O} (h1 : L.length < 1000) (h2 : os.length < 1000) :
    (bnd (asgT (.tp [.nm 3, .nm 4]) (entD (x, false)) [none, some (.lst L), some (.lst os), n, s, i]) fun ρ => evSs Φ lb_l_shape_1 ρ) = .ok .nx [none, some (.lst (L ++ [.lst []])), some (.lst (os ++ [.d (.str x)])), some (.d (.str x)), some (.d (.int 0)), i] := by
  have k1 : L.length < 16777216 := by omega
  have k2 : os.length < 16777216 := by omega
  simp [runF, evSs, evS, evI, evA, evL, evAs, evC, evCs, evCor, evCand, evAnd, evOr, evKs, ev, killE, backE, opR, opX, partOk, partD, argO, plainA, fnSh, isa1, mtTy, muTy, pathO, setPath, snd2, putFO, posF, fieldD, eqTy, callR, makeR, mkT, iosOf, evens, odds, flatS, Res.noX, rangeD, Fl.whl, phi, List.lookup, putD, PySem.sizeLine_eq, lb_l_shape_1, entD]
  simp [runF, evSs, evS, evI, evA, evL, evAs, evC, evCs, evCor, evCand, evAnd, evOr, evKs, ev, killE, backE, opR, opX, partOk, partD, argO, plainA, fnSh, isa1, mtTy, muTy, pathO, setPath, snd2, putFO, posF, fieldD, eqTy, callR, makeR, mkT, iosOf, evens, odds, flatS, Res.noX, rangeD, Fl.whl, phi, List.lookup, putD, PySem.sizeLine_eq, q_eqd_ii, k1, k2]
theorem shape_close {Φ : Phi} {L os : List O} {top inn : List D} {x : Str} {n s i : Option O} (h1 : L.length < 1000) (h2 : top.length < 1000) :
    (bnd (asgT (.tp [.nm 3, .nm 4]) (entD (x, true)) [none, some (.lst (L ++ [.lst (top.map .d)] ++ [.lst (inn.map .d)])), some (.lst (os ++ [.d (.str x)])), n, s, i]) fun ρ => evSs Φ lb_l_shape_1 ρ) = .ok .nx [none, some (.lst (L ++ [.lst ((top ++ [D.tup [.str x, .tup inn]]).map .d)])), some (.lst os), some (.d (.str x)), some (.d (.int 1)), some (.d (.tup inn))] := by
  have k2 : top.length < 16777216 := by omega
  simp [runF, evSs, evS, evI, evA, evL, evAs, evC, evCs, evCor, evCand, evAnd, evOr, evKs, ev, killE, backE, opR, opX, partOk, partD, argO, plainA, fnSh, isa1, mtTy, muTy, pathO, setPath, snd2, putFO, posF, fieldD, eqTy, callR, makeR, mkT, iosOf, evens, odds, flatS, Res.noX, rangeD, Fl.whl, phi, List.lookup, putD, PySem.sizeLine_eq, lb_l_shape_1, entD]
  simp [runF, evSs, evS, evI, evA, evL, evAs, evC, evCs, evCor, evCand, evAnd, evOr, evKs, ev, killE, backE, opR, opX, partOk, partD, argO, plainA, fnSh, isa1, mtTy, muTy, pathO, setPath, snd2, putFO, posF, fieldD, eqTy, callR, makeR, mkT, iosOf, evens, odds, flatS, Res.noX, rangeD, Fl.whl, phi, List.lookup, putD, PySem.sizeLine_eq, q_eqd_ii, k2, ixN_last]
theorem shape_loop {Φ : Phi} : ∀ (f : F) (rest : List D) (L os : List O) (top : List D) (n s i : Option O), L.length + f.size < 1000 → os.length + f.size < 1000 → top.length + f.size < 1000 →
    ∃ n' s' i', forL (fun x ρ => bnd (asgT (.tp [.nm 3, .nm 4]) x ρ) fun ρ => evSs Φ lb_l_shape_1 ρ) (f.walk.map entD ++ rest) [none, some (.lst (L ++ [.lst (top.map .d)])), some (.lst os), n, s, i] =
      forL (fun x ρ => bnd (asgT (.tp [.nm 3, .nm 4]) x ρ) fun ρ => evSs Φ lb_l_shape_1 ρ) rest [none, some (.lst (L ++ [.lst ((top ++ f.shape).map .d)])), some (.lst os), n', s', i']
  | .nil, rest, L, os, top, n, s, i, _, _, _ => ⟨n, s, i, by show forL _ rest _ = _; rw [show top ++ F.nil.shape = top from List.append_nil _]⟩
  | .node x a b, rest, L, os, top, n, s, i, h1, h2, h3 => by
    have hs : (F.node x a b).size = 1 + a.size + b.size := rfl
    rw [hs] at h1 h2 h3
    obtain ⟨n1, s1, i1, e1⟩ := shape_loop (Φ := Φ) a (entD (x, true) :: (b.walk.map entD ++ rest)) (L ++ [.lst (top.map .d)]) (os ++ [.d (.str x)]) [] (some (.d (.str x))) (some (.d (.int 0))) i (by simp; omega) (by simp; omega) (by simp; omega)
    obtain ⟨n2, s2, i2, e2⟩ := shape_loop (Φ := Φ) b rest L os (top ++ [D.tup [.str x, .tup a.shape]]) (some (.d (.str x))) (some (.d (.int 1))) (some (.d (.tup a.shape))) (by omega) (by omega) (by simp; omega)
    refine ⟨n2, s2, i2, ?_⟩
    have hw : (F.node x a b).walk.map entD ++ rest = entD (x, false) :: (a.walk.map entD ++ (entD (x, true) :: (b.walk.map entD ++ rest))) := by
      show ((x, false) :: (a.walk ++ (x, true) :: b.walk)).map entD ++ rest = _
      simp
    rw [hw, forL, shape_open (by simp; omega) (by omega)]
    refine Eq.trans (b := forL _ (a.walk.map entD ++ (entD (x, true) :: (b.walk.map entD ++ rest))) _) rfl (e1.trans ?_)
    rw [forL, List.nil_append, shape_close (by omega) (by omega)]
    refine Eq.trans (b := forL _ (b.walk.map entD ++ rest) _) rfl (e2.trans ?_)
    rw [show top ++ (F.node x a b).shape = top ++ [D.tup [.str x, .tup a.shape]] ++ b.shape by show top ++ (_ :: b.shape) = _; simp]
theorem shape {f : F} (h : f.size ≤ 100) : r_l_shape [walkO f.walk] = .ok (.d (.tup f.shape)) [walkO f.walk] := by
  obtain ⟨n, s, i, e⟩ := shape_loop (Φ := phi []) f [] [] [] [] none none none (by simp; omega) (by simp; omega) (by simp; omega)
  refine (runD_eq (by rfl) (by rfl)).trans ?_
  rw [bb_l_shape]
  simp [runF, evSs, evS, evI, evA, evL, evAs, evC, evCs, evCor, evCand, evAnd, evOr, evKs, ev, killE, backE, opR, opX, partOk, partD, argO, plainA, fnSh, isa1, mtTy, muTy, pathO, setPath, snd2, putFO, posF, fieldD, eqTy, callR, makeR, mkT, iosOf, evens, odds, flatS, Res.noX, rangeD, Fl.whl, phi, List.lookup, putD, PySem.sizeLine_eq] at e
  simp [runF, evSs, evS, evI, evA, evL, evAs, evC, evCs, evCor, evCand, evAnd, evOr, evKs, ev, killE, backE, opR, opX, partOk, partD, argO, plainA, fnSh, isa1, mtTy, muTy, pathO, setPath, snd2, putFO, posF, fieldD, eqTy, callR, makeR, mkT, iosOf, evens, odds, flatS, Res.noX, rangeD, Fl.whl, phi, List.lookup, putD, PySem.sizeLine_eq, frz_w, shal_w]
  simp [runF, evSs, evS, evI, evA, evL, evAs, evC, evCs, evCor, evCand, evAnd, evOr, evKs, ev, killE, backE, opR, opX, partOk, partD, argO, plainA, fnSh, isa1, mtTy, muTy, pathO, setPath, snd2, putFO, posF, fieldD, eqTy, callR, makeR, mkT, iosOf, evens, odds, flatS, Res.noX, rangeD, Fl.whl, phi, List.lookup, putD, PySem.sizeLine_eq, e, forL]
end PV.K1
namespace PV.K1
open PySem L2 K01
/-! ### how a walk's names are hung -/
theorem kind_strs {x : Str} : ∀ {ns : List Str}, kindOk (.str x) (ns.map .str) = true := by
  intro ns
  have h : ((ns.map D.str).all fun j => (keyOf j).isSome) = true := by
    rw [List.all_eq_true]
    intro j hj
    obtain ⟨s, _, rfl⟩ := List.mem_map.mp hj
    rfl
  show (((keyOf (.str x)).isSome && (ns.map D.str).all fun j => (keyOf j).isSome) || _) = true
  rw [h]
  rfl
theorem key_str {x y : Str} : (keyOf (.str x) = keyOf (.str y) ∧ tkeyOf (.str x) = tkeyOf (.str y)) ↔ x = y := by
  constructor
  · intro h
    have h1 : (some (Sum.inr x) : Option Key) = some (Sum.inr y) := h.1
    injection h1 with h1
    injection h1
  · rintro rfl
    exact ⟨rfl, rfl⟩
theorem pos_strs {x : Str} : ∀ {ns : List Str}, x ∉ ns → posD (.str x) (ns.map .str) = none
  | [], _ => rfl
  | y :: ns, h => by
    rw [List.map_cons]
    show (if keyOf (.str y) = keyOf (.str x) ∧ tkeyOf (.str y) = tkeyOf (.str x) then some 0 else (posD (.str x) (ns.map .str)).map (· + 1)) = none
    rw [if_neg (fun z => h (by rw [key_str.mp z]; exact List.mem_cons_self)), pos_strs fun z => h (List.mem_cons_of_mem _ z)]
    rfl
theorem par_open {Φ : Phi} {ns : List Str} {vs os : List D} {p : D} {x : Str} {n s : Option O} (h1 : x ∉ ns) (h2 : ns.length < 1000) (h3 : os.length < 1000) (hp : scalD p = true) :
    (bnd (asgT (.tp [.nm 3, .nm 4]) (entD (x, false)) [none, some (.dic (ns.map .str) (vs.map .d)), some (.lst ((os ++ [p]).map .d)), n, s]) fun ρ => evSs Φ lb_l_parents_1 ρ) = .ok .nx [none, some (.dic ((ns ++ [x]).map .str) ((vs ++ [p]).map .d)), some (.lst ((os ++ [p] ++ [D.str x]).map .d)), some (.d (.str x)), some (.d (.int 0))] := by
  have k1 : ns.length < 16777216 := by omega
  have k2 : os.length + 1 < 16777216 := by omega
  have k3 : ∀ {o : O} {k : D}, ixBack o k (.d p) = o := fun {o k} => by
    unfold ixBack
    rw [show scalO (.d p) = scalD p from rfl, hp]
    rfl
  simp [runF, evSs, evS, evI, evA, evL, evAs, evC, evCs, evCor, evCand, evAnd, evOr, evKs, ev, killE, backE, opR, opX, partOk, partD, argO, plainA, fnSh, isa1, mtTy, muTy, pathO, setPath, snd2, putFO, posF, fieldD, eqTy, callR, makeR, mkT, iosOf, evens, odds, flatS, Res.noX, rangeD, Fl.whl, phi, List.lookup, putD, PySem.sizeLine_eq, lb_l_parents_1, entD]
  simp [runF, evSs, evS, evI, evA, evL, evAs, evC, evCs, evCor, evCand, evAnd, evOr, evKs, ev, killE, backE, opR, opX, partOk, partD, argO, plainA, fnSh, isa1, mtTy, muTy, pathO, setPath, snd2, putFO, posF, fieldD, eqTy, callR, makeR, mkT, iosOf, evens, odds, flatS, Res.noX, rangeD, Fl.whl, phi, List.lookup, putD, PySem.sizeLine_eq, q_eqd_ii, k1, k2, atI_last, kind_strs, pos_strs h1, k3]
theorem par_close {Φ : Phi} {st : Option O} {os : List D} {p : D} {x : Str} {n s : Option O} :
    (bnd (asgT (.tp [.nm 3, .nm 4]) (entD (x, true)) [none, st, some (.lst ((os ++ [p]).map .d)), n, s]) fun ρ => evSs Φ lb_l_parents_1 ρ) = .ok .nx [none, st, some (.lst (os.map .d)), some (.d (.str x)), some (.d (.int 1))] := by
  simp [runF, evSs, evS, evI, evA, evL, evAs, evC, evCs, evCor, evCand, evAnd, evOr, evKs, ev, killE, backE, opR, opX, partOk, partD, argO, plainA, fnSh, isa1, mtTy, muTy, pathO, setPath, snd2, putFO, posF, fieldD, eqTy, callR, makeR, mkT, iosOf, evens, odds, flatS, Res.noX, rangeD, Fl.whl, phi, List.lookup, putD, PySem.sizeLine_eq, lb_l_parents_1, entD]
  simp [runF, evSs, evS, evI, evA, evL, evAs, evC, evCs, evCor, evCand, evAnd, evOr, evKs, ev, killE, backE, opR, opX, partOk, partD, argO, plainA, fnSh, isa1, mtTy, muTy, pathO, setPath, snd2, putFO, posF, fieldD, eqTy, callR, makeR, mkT, iosOf, evens, odds, flatS, Res.noX, rangeD, Fl.whl, phi, List.lookup, putD, PySem.sizeLine_eq, q_eqd_ii]
theorem par_loop {Φ : Phi} : ∀ (f : F) (rest : List D) (ns : List Str) (vs os : List D) (p : D) (n s : Option O), (ns ++ f.names).Nodup → ns.length + f.size < 1000 → os.length + f.size < 1000 → scalD p = true →
    ∃ n' s', forL (fun x ρ => bnd (asgT (.tp [.nm 3, .nm 4]) x ρ) fun ρ => evSs Φ lb_l_parents_1 ρ) (f.walk.map entD ++ rest) [none, some (.dic (ns.map .str) (vs.map .d)), some (.lst ((os ++ [p]).map .d)), n, s] =
      forL (fun x ρ => bnd (asgT (.tp [.nm 3, .nm 4]) x ρ) fun ρ => evSs Φ lb_l_parents_1 ρ) rest [none, some (.dic ((ns ++ f.names).map .str) ((vs ++ f.pars p).map .d)), some (.lst ((os ++ [p]).map .d)), n', s']
  | .nil, rest, ns, vs, os, p, n, s, _, _, _, _ => ⟨n, s, by show forL _ rest _ = _; rw [show ns ++ F.nil.names = ns from List.append_nil _, show vs ++ F.nil.pars p = vs from List.append_nil _]⟩
  | .node x a b, rest, ns, vs, os, p, n, s, nd, h1, h2, hp => by
    have hs : (F.node x a b).size = 1 + a.size + b.size := rfl
    have hn : ns ++ (F.node x a b).names = (ns ++ [x] ++ a.names) ++ b.names := by
      show ns ++ (x :: (a.names ++ b.names)) = _
      simp
    have hv : vs ++ (F.node x a b).pars p = (vs ++ [p] ++ a.pars (.str x)) ++ b.pars p := by
      show vs ++ (p :: (a.pars (.str x) ++ b.pars p)) = _
      simp
    rw [hn] at nd
    rw [hs] at h1 h2
    have nda := (List.nodup_append.mp nd).1
    have nx : x ∉ ns := fun z => (List.nodup_append.mp (List.nodup_append.mp nda).1).2.2 x z x (List.mem_singleton.mpr rfl) rfl
    have la := F.names_len a
    obtain ⟨n1, s1, e1⟩ := par_loop (Φ := Φ) a (entD (x, true) :: (b.walk.map entD ++ rest)) (ns ++ [x]) (vs ++ [p]) (os ++ [p]) (.str x) (some (.d (.str x))) (some (.d (.int 0))) nda (by simp; omega) (by simp; omega) rfl
    obtain ⟨n2, s2, e2⟩ := par_loop (Φ := Φ) b rest (ns ++ [x] ++ a.names) (vs ++ [p] ++ a.pars (.str x)) os p (some (.d (.str x))) (some (.d (.int 1))) nd (by simp; omega) (by omega) hp
    refine ⟨n2, s2, ?_⟩
    have hw : (F.node x a b).walk.map entD ++ rest = entD (x, false) :: (a.walk.map entD ++ (entD (x, true) :: (b.walk.map entD ++ rest))) := by
      show ((x, false) :: (a.walk ++ (x, true) :: b.walk)).map entD ++ rest = _
      simp
    rw [hw, forL, par_open nx (by omega) (by omega) hp]
    refine Eq.trans (b := forL _ (a.walk.map entD ++ (entD (x, true) :: (b.walk.map entD ++ rest))) _) rfl (e1.trans ?_)
    rw [forL, par_close]
    refine Eq.trans (b := forL _ (b.walk.map entD ++ rest) _) rfl (e2.trans ?_)
    rw [hn, hv]
/-- the names, each with what it is hung on -/
abbrev F.dicD (f : F) : D := .dic (f.names.map .str) (f.pars .non)
abbrev F.dicO (f : F) : O := .dic (f.names.map .str) ((f.pars .non).map .d)
theorem parents {f : F} (h : f.size ≤ 100) (nd : f.names.Nodup) : r_l_parents [walkO f.walk] = .ok f.dicO [walkO f.walk] := by
  obtain ⟨n, s, e⟩ := par_loop (Φ := phi []) f [] [] [] [] .non none none (by simpa using nd) (by simp; omega) (by simp; omega) rfl
  refine (runD_eq (by rfl) (by rfl)).trans ?_
  rw [bb_l_parents]
  simp [runF, evSs, evS, evI, evA, evL, evAs, evC, evCs, evCor, evCand, evAnd, evOr, evKs, ev, killE, backE, opR, opX, partOk, partD, argO, plainA, fnSh, isa1, mtTy, muTy, pathO, setPath, snd2, putFO, posF, fieldD, eqTy, callR, makeR, mkT, iosOf, evens, odds, flatS, Res.noX, rangeD, Fl.whl, phi, List.lookup, putD, PySem.sizeLine_eq] at e
  simp [runF, evSs, evS, evI, evA, evL, evAs, evC, evCs, evCor, evCand, evAnd, evOr, evKs, ev, killE, backE, opR, opX, partOk, partD, argO, plainA, fnSh, isa1, mtTy, muTy, pathO, setPath, snd2, putFO, posF, fieldD, eqTy, callR, makeR, mkT, iosOf, evens, odds, flatS, Res.noX, rangeD, Fl.whl, phi, List.lookup, putD, PySem.sizeLine_eq, frz_w, shal_w, dicO, keysOf]
  simp [runF, evSs, evS, evI, evA, evL, evAs, evC, evCs, evCor, evCand, evAnd, evOr, evKs, ev, killE, backE, opR, opX, partOk, partD, argO, plainA, fnSh, isa1, mtTy, muTy, pathO, setPath, snd2, putFO, posF, fieldD, eqTy, callR, makeR, mkT, iosOf, evens, odds, flatS, Res.noX, rangeD, Fl.whl, phi, List.lookup, putD, PySem.sizeLine_eq, e, forL]
/-! ### names and shapes that are ones -/
theorem boolsD_true {α : Type} : ∀ xs : List α, boolsD (xs.map fun _ => D.bl true) = some (xs.map fun _ => true)
  | [] => rfl
  | x :: xs => by rw [List.map_cons, boolsD, boolsD_true xs]; rfl
theorem is_name {s : Str} (h : NameOk s) : r_is_name [.d (.str s)] = .ok (.d (.bl true)) [.d (.str s)] := by
  refine (runD_eq (by rfl) (by rfl)).trans ?_
  rw [bb_is_name]
  have h1 : (1 : Int) ≤ s.length ∧ (s.length : Int) ≤ 8 ∧ s.length ≤ 16777216 := by
    have := h.lo
    have := h.hi
    omega
  have e : compL (fun x ρ => bnd (asgT (.nm 1) x ρ) fun ρ => (evCs (phi []) [] ρ).bind fun b ρ => tst b ((ev (phi []) ce_is_name_1 ρ).bind fun o ρ => .ok (some o) (killE [1] ρ)) (.ok none (killE [1] ρ))) (s.cps.toList.map fun c => .str ⟨#[c]⟩) [some (.d (.str s)), none] = .ok (s.cps.toList.map fun _ => .d (.bl true)) [some (.d (.str s)), none] := by
    refine comp_map fun c hc => ?_
    have := h.ab c hc
    simp [runF, evSs, evS, evI, evA, evL, evAs, evC, evCs, evCor, evCand, evAnd, evOr, evKs, ev, killE, backE, opR, opX, partOk, partD, argO, plainA, fnSh, isa1, mtTy, muTy, pathO, setPath, snd2, putFO, posF, fieldD, eqTy, callR, makeR, mkT, iosOf, evens, odds, flatS, Res.noX, rangeD, Fl.whl, phi, List.lookup, putD, PySem.sizeLine_eq, ce_is_name_1, this]
  simp [runF, evSs, evS, evI, evA, evL, evAs, evC, evCs, evCor, evCand, evAnd, evOr, evKs, ev, killE, backE, opR, opX, partOk, partD, argO, plainA, fnSh, isa1, mtTy, muTy, pathO, setPath, snd2, putFO, posF, fieldD, eqTy, callR, makeR, mkT, iosOf, evens, odds, flatS, Res.noX, rangeD, Fl.whl, phi, List.lookup, putD, PySem.sizeLine_eq] at e
  simp [runF, evSs, evS, evI, evA, evL, evAs, evC, evCs, evCor, evCand, evAnd, evOr, evKs, ev, killE, backE, opR, opX, partOk, partD, argO, plainA, fnSh, isa1, mtTy, muTy, pathO, setPath, snd2, putFO, posF, fieldD, eqTy, callR, makeR, mkT, iosOf, evens, odds, flatS, Res.noX, rangeD, Fl.whl, phi, List.lookup, putD, PySem.sizeLine_eq, h1.1, h1.2.1, h1.2.2]
  simp [runF, evSs, evS, evI, evA, evL, evAs, evC, evCs, evCor, evCand, evAnd, evOr, evKs, ev, killE, backE, opR, opX, partOk, partD, argO, plainA, fnSh, isa1, mtTy, muTy, pathO, setPath, snd2, putFO, posF, fieldD, eqTy, callR, makeR, mkT, iosOf, evens, odds, flatS, Res.noX, rangeD, Fl.whl, phi, List.lookup, putD, PySem.sizeLine_eq, e, h1.1, h1.2.1, h1.2.2, Function.comp_def, boolsD_true]
end PV.K1
namespace PV.K1
open PySem L2 K01
theorem whl_mono {f : Env → Res (Option Fl)} : ∀ {n : Nat} {ρ : Env} {r : Res Fl} (m : Nat), whlN f n ρ = some r → whlN f (n + m) ρ = some r
  | 0, ρ, r, m, h => by cases h
  | n + 1, ρ, r, m, h => by
    rw [show n + 1 + m = (n + m) + 1 by omega]
    unfold whlN at h ⊢
    split at h
    · exact whl_mono m h
    · exact h
    · exact h
    · exact h
theorem whl_ok {f : Env → Res (Option Fl)} {n : Nat} {ρ : Env} {r : Res Fl} (h : whlN f n ρ = some r) : whlL f ρ = r := by
  have ex : ∃ n r, whlN f n ρ = some r := ⟨n, r, h⟩
  unfold whlL
  rw [dif_pos ex]
  have q := (Classical.choose_spec ex).choose_spec
  have e1 := whl_mono (f := f) n q
  have e2 := whl_mono (f := f) (Classical.choose ex) h
  rw [Nat.add_comm] at e1
  rw [e1] at e2
  exact Option.some.inj e2
theorem met_nodup : ∀ {xs : List Str}, xs.Nodup → met xs = xs := by
  have key : ∀ (xs acc : List Str), (acc ++ xs).Nodup → xs.foldl stepS acc = acc ++ xs := by
    intro xs
    induction xs with
    | nil => intro acc _; simp
    | cons x xs ih =>
      intro acc nd
      have hx : x ∉ acc := fun z => (List.nodup_append.mp nd).2.2 x z x List.mem_cons_self rfl
      have hs : stepS acc x = acc ++ [x] := by
        unfold stepS
        rw [if_neg]
        intro z
        obtain ⟨y, hy, e⟩ := List.any_eq_true.mp z
        exact hx (eq_of_beq e ▸ hy)
      rw [List.foldl_cons, hs, ih (acc ++ [x]) (by simpa using nd)]
      simp
  intro xs nd
  exact key xs [] (by simpa using nd)
/-! ### is_shape -/
def F.heads : F → List Str
  | .nil => []
  | .node x _ b => x :: b.heads
def F.inners : F → List F
  | .nil => []
  | .node _ a b => a :: b.inners
def sizes : List F → Nat
  | [] => 0
  | f :: fs => f.size + sizes fs
def allNames : List F → List Str
  | [] => []
  | f :: fs => f.names ++ allNames fs
theorem sizes_append : ∀ a b : List F, sizes (a ++ b) = sizes a + sizes b
  | [], b => by simp [sizes]
  | f :: a, b => by rw [List.cons_append, sizes, sizes, sizes_append a b]; omega
theorem allNames_append : ∀ a b : List F, allNames (a ++ b) = allNames a ++ allNames b
  | [], b => rfl
  | f :: a, b => by rw [List.cons_append, allNames, allNames, allNames_append a b, List.append_assoc]
theorem F.size_heads : ∀ f : F, f.size = f.heads.length + sizes f.inners
  | .nil => rfl
  | .node x a b => by
    show 1 + a.size + b.size = (x :: b.heads).length + sizes (a :: b.inners)
    rw [List.length_cons, sizes, F.size_heads b]
    omega
theorem F.inners_len : ∀ f : F, f.inners.length = f.heads.length
  | .nil => rfl
  | .node x a b => by
    show (a :: b.inners).length = (x :: b.heads).length
    rw [List.length_cons, List.length_cons, F.inners_len b]
theorem F.names_heads : ∀ f : F, (f.heads ++ allNames f.inners).Perm f.names
  | .nil => .refl _
  | .node x a b => by
    show (x :: (b.heads ++ (a.names ++ allNames b.inners))).Perm (x :: (a.names ++ b.names))
    refine .cons x ?_
    have h := F.names_heads b
    refine List.Perm.trans ?_ (h.append_left a.names)
    rw [← List.append_assoc, ← List.append_assoc]
    exact List.perm_append_comm.append_right _
abbrev shO (f : F) : O := .d (.tup f.shape)
noncomputable abbrev ΦS : Phi := phi [(2, r_is_name)]
theorem okd_int {n : Nat} {i : Int} : D.okd n (.int i) = true := by cases n <;> rw [D.okd]
theorem shape_in : ∀ (f : F) (fs : List Str) (ps : List F) (v lv nd : Option O), (∀ s ∈ f.heads, NameOk s) → fs.length + f.heads.length ≤ 12 → ps.length + f.heads.length ≤ 200 →
    ∃ nd', forL (fun x ρ => bnd (asgT (.nm 4) x ρ) fun ρ => evSs ΦS lb_is_shape_1 ρ) f.shape [v, some (.lst (fs.map strO)), some (.lst (ps.map shO)), lv, nd] = .ok .nx [v, some (.lst ((fs ++ f.heads).map strO)), some (.lst ((ps ++ f.inners).map shO)), lv, nd']
  | .nil, fs, ps, v, lv, nd, _, _, _ => ⟨nd, by rw [show fs ++ F.nil.heads = fs from List.append_nil _, show ps ++ F.nil.inners = ps from List.append_nil _]; rfl⟩
  | .node x a b, fs, ps, v, lv, nd, hn, h1, h2 => by
    have hh : (F.node x a b).heads = x :: b.heads := rfl
    have hi : (F.node x a b).inners = a :: b.inners := rfl
    rw [hh] at hn h1 h2
    rw [List.length_cons] at h1 h2
    obtain ⟨nd', e⟩ := shape_in b (fs ++ [x]) (ps ++ [a]) v lv (some (.d (.tup [.str x, .tup a.shape]))) (fun s hs => hn s (List.mem_cons_of_mem _ hs)) (by simp; omega) (by simp; omega)
    refine ⟨nd', ?_⟩
    have step : (bnd (asgT (.nm 4) (.tup [.str x, .tup a.shape]) [v, some (.lst (fs.map strO)), some (.lst (ps.map shO)), lv, nd]) fun ρ => evSs ΦS lb_is_shape_1 ρ) = .ok .nx [v, some (.lst ((fs ++ [x]).map strO)), some (.lst ((ps ++ [a]).map shO)), lv, some (.d (.tup [.str x, .tup a.shape]))] := by
      have k0 := is_name (hn x List.mem_cons_self)
      have k1 : fs.length < 16777216 := by omega
      have k2 : ps.length < 16777216 := by omega
      have k3 : ¬ (12 : Int) < (fs.length : Int) + 1 := by omega
      have k4 : atI [D.str x, .tup a.shape] 1 = some (.tup a.shape) := atI_nat (j := 1) rfl
      simp [runF, evSs, evS, evI, evA, evL, evAs, evC, evCs, evCor, evCand, evAnd, evOr, evKs, ev, killE, backE, opR, opX, partOk, partD, argO, plainA, fnSh, isa1, mtTy, muTy, pathO, setPath, snd2, putFO, posF, fieldD, eqTy, callR, makeR, mkT, iosOf, evens, odds, flatS, Res.noX, rangeD, Fl.whl, phi, List.lookup, putD, PySem.sizeLine_eq, lb_is_shape_1]
      simp [runF, evSs, evS, evI, evA, evL, evAs, evC, evCs, evCor, evCand, evAnd, evOr, evKs, ev, killE, backE, opR, opX, partOk, partD, argO, plainA, fnSh, isa1, mtTy, muTy, pathO, setPath, snd2, putFO, posF, fieldD, eqTy, callR, makeR, mkT, iosOf, evens, odds, flatS, Res.noX, rangeD, Fl.whl, phi, List.lookup, putD, PySem.sizeLine_eq, k0, k1, k2, k3, k4, okS, okd_int, q_eqd_ii]
    show forL _ (D.tup [.str x, .tup a.shape] :: b.shape) _ = _
    rw [forL, step, hh, hi]
    refine Eq.trans (b := forL _ b.shape _) rfl (e.trans ?_)
    simp
theorem okdL_all {n : Nat} : ∀ {xs : List D}, (∀ x ∈ xs, D.okd n x = true) → D.okdL n xs = true
  | [], _ => by rw [D.okdL]
  | x :: xs, h => by
    rw [D.okdL, h x List.mem_cons_self, okdL_all fun y hy => h y (List.mem_cons_of_mem _ hy)]
    rfl
theorem okdL_app {n : Nat} {xs ys : List D} (h1 : D.okdL n xs = true) (h2 : D.okdL n ys = true) : D.okdL n (xs ++ ys) = true := by
  induction xs with
  | nil => exact h2
  | cons x xs ih =>
    rw [List.cons_append, D.okdL] at *
    rw [Bool.and_eq_true] at h1
    rw [h1.1, ih h1.2]
    rfl
/-- a shape is not too deep -/
theorem okd_shape : ∀ (f : F) (n : Nat), 2 * f.size ≤ n → D.okdL n f.shape = true
  | .nil, n, _ => by rw [F.shape, D.okdL]
  | .node x a b, n, h => by
    have hs : (F.node x a b).size = 1 + a.size + b.size := rfl
    obtain ⟨m, rfl⟩ : ∃ m, n = m + 2 := ⟨n - 2, by omega⟩
    rw [F.shape, D.okdL, okd_shape b (m + 2) (by omega), D.okd, D.okdL, okd_str, D.okdL, D.okd, okd_shape a m (by omega), D.okdL]
    rfl
theorem okd_sh {f : F} {n : Nat} (h : 2 * f.size + 1 ≤ n) : D.okd n (.tup f.shape) = true := by
  obtain ⟨m, rfl⟩ : ∃ m, n = m + 1 := ⟨n - 1, by omega⟩
  rw [D.okd]
  exact okd_shape f m (by omega)
theorem size_in : ∀ {ps : List F} {f : F}, f ∈ ps → f.size ≤ sizes ps
  | g :: ps, f, h => by
    rw [sizes]
    rcases List.mem_cons.mp h with rfl | q
    · omega
    · have := size_in q
      omega
theorem allNames_mem {f : F} {s : Str} (h : s ∈ f.heads) : s ∈ f.names := (F.names_heads f).mem_iff.mp (List.mem_append_left _ h)
theorem shape_whl : ∀ (k : Nat) (ps : List F) (fs : List Str) (v lv nd : Option O), ps.length + sizes ps = k → fs.length + sizes ps ≤ 12 → ps.length + sizes ps ≤ 100 → (∀ s ∈ allNames ps, NameOk s) →
    ∃ (fs' : List Str) (lv' nd' : Option O), whlN (fun ρ => (evC ΦS (.cm .ne (.var 2) (.lst [])) ρ).bind fun t ρ => tst t ((evSs ΦS lb_is_shape_2 ρ).bind fun f ρ => .ok f.whl ρ) (.ok (some .nx) ρ)) (k + 1) [v, some (.lst (fs.map strO)), some (.lst (ps.map shO)), lv, nd] =
      some (.ok .nx [v, some (.lst (fs'.map strO)), some (.lst []), lv', nd']) ∧ fs'.Perm (fs ++ allNames ps)
  | 0, ps, fs, v, lv, nd, hk, _, _, _ => by
    have : ps = [] := List.eq_nil_of_length_eq_zero (by omega)
    subst this
    refine ⟨fs, lv, nd, ?_, by simp [allNames]⟩
    unfold whlN
    simp [runF, evSs, evS, evI, evA, evL, evAs, evC, evCs, evCor, evCand, evAnd, evOr, evKs, ev, killE, backE, opR, opX, partOk, partD, argO, plainA, fnSh, isa1, mtTy, muTy, pathO, setPath, snd2, putFO, posF, fieldD, eqTy, callR, makeR, mkT, iosOf, evens, odds, flatS, Res.noX, rangeD, Fl.whl, phi, List.lookup, putD, PySem.sizeLine_eq, okS, D.okd, D.okdL, D.eqd, D.eqdL]
  | k + 1, ps, fs, v, lv, nd, hk, h1, h2, hn => by
    rcases List.eq_nil_or_concat ps with rfl | ⟨qs, g, rfl⟩
    · simp [sizes] at hk
    · rw [List.concat_eq_append] at *
      have hsz : sizes (qs ++ [g]) = sizes qs + g.size := by rw [sizes_append]; simp [sizes]
      have hal : allNames (qs ++ [g]) = allNames qs ++ g.names := by rw [allNames_append]; simp [allNames]
      have hgh := F.size_heads g
      have hgi := F.inners_len g
      rw [hsz] at hk h1 h2
      rw [List.length_append, List.length_singleton] at hk h2
      rw [hal] at hn
      obtain ⟨nd1, e1⟩ := shape_in g fs qs v (some (shO g)) nd (fun s hs => hn s (List.mem_append_right _ (allNames_mem hs))) (by omega) (by omega)
      obtain ⟨fs2, lv2, nd2, e2, h3⟩ := shape_whl k (qs ++ g.inners) (fs ++ g.heads) v (some (shO g)) nd1 (by rw [sizes_append, List.length_append]; omega) (by rw [sizes_append, List.length_append]; omega) (by rw [sizes_append, List.length_append]; omega) (fun s hs => by
        rw [allNames_append] at hs
        rcases List.mem_append.mp hs with q | q
        · exact hn s (List.mem_append_left _ q)
        · exact hn s (List.mem_append_right _ ((F.names_heads g).mem_iff.mp (List.mem_append_right _ q))))
      refine ⟨fs2, lv2, nd2, ?_, h3.trans ?_⟩
      · have step : (evC ΦS (.cm .ne (.var 2) (.lst [])) [v, some (.lst (fs.map strO)), some (.lst ((qs ++ [g]).map shO)), lv, nd]).bind (fun t ρ => tst t ((evSs ΦS lb_is_shape_2 ρ).bind fun f ρ => .ok f.whl ρ) (.ok (some .nx) ρ)) = .ok none [v, some (.lst ((fs ++ g.heads).map strO)), some (.lst ((qs ++ g.inners).map shO)), some (shO g), nd1] := by
          have ho : D.okdL 149 (qs.map (O.frz ∘ shO) ++ [D.tup g.shape]) = true := okdL_app (okdL_all fun x hx => by
            obtain ⟨f, hf, rfl⟩ := List.mem_map.mp hx
            have := size_in hf
            exact okd_sh (by omega)) (okdL_all fun x hx => by
            rw [List.mem_singleton.mp hx]
            exact okd_sh (by omega))
          simp [runF, evSs, evS, evI, evA, evL, evAs, evC, evCs, evCor, evCand, evAnd, evOr, evKs, ev, killE, backE, opR, opX, partOk, partD, argO, plainA, fnSh, isa1, mtTy, muTy, pathO, setPath, snd2, putFO, posF, fieldD, eqTy, callR, makeR, mkT, iosOf, evens, odds, flatS, Res.noX, rangeD, Fl.whl, phi, List.lookup, putD, PySem.sizeLine_eq] at e1
          simp [runF, evSs, evS, evI, evA, evL, evAs, evC, evCs, evCor, evCand, evAnd, evOr, evKs, ev, killE, backE, opR, opX, partOk, partD, argO, plainA, fnSh, isa1, mtTy, muTy, pathO, setPath, snd2, putFO, posF, fieldD, eqTy, callR, makeR, mkT, iosOf, evens, odds, flatS, Res.noX, rangeD, Fl.whl, phi, List.lookup, putD, PySem.sizeLine_eq, okS, D.okd, D.okdL, D.eqd, D.eqdL]
          simp [runF, evSs, evS, evI, evA, evL, evAs, evC, evCs, evCor, evCand, evAnd, evOr, evKs, ev, killE, backE, opR, opX, partOk, partD, argO, plainA, fnSh, isa1, mtTy, muTy, pathO, setPath, snd2, putFO, posF, fieldD, eqTy, callR, makeR, mkT, iosOf, evens, odds, flatS, Res.noX, rangeD, Fl.whl, phi, List.lookup, putD, PySem.sizeLine_eq, ho, lb_is_shape_2, e1]
        unfold whlN
        rw [step]
        exact e2
      · rw [allNames_append, hal]
        have h5 := F.names_heads g
        rw [List.append_assoc]
        refine List.Perm.append_left fs ?_
        refine List.Perm.trans (List.perm_append_comm_assoc _ _ _) ?_
        exact h5.append_left _
structure FOk (f : F) : Prop where
  nd : f.names.Nodup
  ok : ∀ s ∈ f.names, NameOk s
  sz : f.size ≤ 12
theorem is_shape {f : F} (h : FOk f) : r_is_shape [.d (.tup f.shape)] = .ok (.d (.bl true)) [.d (.tup f.shape)] := by
  obtain ⟨fs, lv, nd, e, hp⟩ := shape_whl (1 + f.size) [f] [] (some (.d (.tup f.shape))) none none (by simp [sizes]) (by simpa [sizes] using h.sz) (by have := h.sz; simp [sizes]; omega) (by simpa [allNames] using h.ok)
  have hp2 : fs.Perm f.names := by simpa [allNames] using hp
  have hnd : fs.Nodup := hp2.nodup_iff.mpr h.nd
  have hl : fs.length ≤ 12 := by rw [hp2.length_eq, F.names_len]; exact h.sz
  have e2 := whl_ok e
  have hst : strsD (fs.map D.str) = some fs := strs_map fs
  have k1 : fs.length ≤ 4000 := by omega
  refine (runD_eq (by rfl) (by rfl)).trans ?_
  rw [bb_is_shape]
  rw [List.map_nil, List.map_cons, List.map_nil] at e2
  simp [runF, evSs, evS, evI, evA, evL, evAs, evC, evCs, evCor, evCand, evAnd, evOr, evKs, ev, killE, backE, opR, opX, partOk, partD, argO, plainA, fnSh, isa1, mtTy, muTy, pathO, setPath, snd2, putFO, posF, fieldD, eqTy, callR, makeR, mkT, iosOf, evens, odds, flatS, Res.noX, rangeD, Fl.whl, phi, List.lookup, putD, PySem.sizeLine_eq] at e2
  simp [runF, evSs, evS, evI, evA, evL, evAs, evC, evCs, evCor, evCand, evAnd, evOr, evKs, ev, killE, backE, opR, opX, partOk, partD, argO, plainA, fnSh, isa1, mtTy, muTy, pathO, setPath, snd2, putFO, posF, fieldD, eqTy, callR, makeR, mkT, iosOf, evens, odds, flatS, Res.noX, rangeD, Fl.whl, phi, List.lookup, putD, PySem.sizeLine_eq]
  simp [runF, evSs, evS, evI, evA, evL, evAs, evC, evCs, evCor, evCand, evAnd, evOr, evKs, ev, killE, backE, opR, opX, partOk, partD, argO, plainA, fnSh, isa1, mtTy, muTy, pathO, setPath, snd2, putFO, posF, fieldD, eqTy, callR, makeR, mkT, iosOf, evens, odds, flatS, Res.noX, rangeD, Fl.whl, phi, List.lookup, putD, PySem.sizeLine_eq, e2, Function.comp_def, hst, met_nodup hnd, k1, q_eqd_ii, okS, okd_int]
end PV.K1
namespace PV.K1
open PySem L2 K01
/-! ### walk_of -/
noncomputable abbrev ΦR (n : Nat) : Phi := phi [(4, rr_walk_of n)]
noncomputable abbrev fR (n : Nat) : D → Env → Res Fl := fun x ρ => bnd (asgT (.tp [.nm 2, .nm 3]) x ρ) fun ρ => evSs (ΦR n) lb_walk_of_1 ρ
abbrev entO (e : Ent) : O := .d (entD e)
theorem rr_of {n : Nat} {f : F} {i j : Option O} (e : forL (fR n) f.shape [some (.d (.tup f.shape)), some (.lst []), none, none] = .ok .nx [some (.d (.tup f.shape)), some (walkO f.walk), i, j]) : rr_walk_of (n + 1) [.d (.tup f.shape)] = .ok (walkO f.walk) [.d (.tup f.shape)] := by
  refine (runD_eq (by rfl) (by rfl)).trans ?_
  rw [bb_walk_of]
  delta fR at e
  simp [runF, evSs, evS, evI, evA, evL, evAs, evC, evCs, evCor, evCand, evAnd, evOr, evKs, ev, killE, backE, opR, opX, partOk, partD, argO, plainA, fnSh, isa1, mtTy, muTy, pathO, setPath, snd2, putFO, posF, fieldD, eqTy, callR, makeR, mkT, iosOf, evens, odds, flatS, Res.noX, rangeD, Fl.whl, phi, List.lookup, putD, PySem.sizeLine_eq]
  simp [runF, evSs, evS, evI, evA, evL, evAs, evC, evCs, evCor, evCand, evAnd, evOr, evKs, ev, killE, backE, opR, opX, partOk, partD, argO, plainA, fnSh, isa1, mtTy, muTy, pathO, setPath, snd2, putFO, posF, fieldD, eqTy, callR, makeR, mkT, iosOf, evens, odds, flatS, Res.noX, rangeD, Fl.whl, phi, List.lookup, putD, PySem.sizeLine_eq, e]
theorem walk_of_loop : ∀ (f : F) (n : Nat) (acc : List Ent) (v i j : Option O), f.size ≤ n → acc.length + 2 * f.size ≤ 1000 →
    ∃ i' j', forL (fR n) f.shape [v, some (walkO acc), i, j] = .ok .nx [v, some (walkO (acc ++ f.walk)), i', j']
  | .nil, n, acc, v, i, j, _, _ => ⟨i, j, by rw [show acc ++ F.nil.walk = acc from List.append_nil _]; rfl⟩
  | .node x a b, n, acc, v, i, j, h, hl => by
    have hs : (F.node x a b).size = 1 + a.size + b.size := rfl
    rw [hs] at h hl
    obtain ⟨m, rfl⟩ : ∃ m, n = m + 1 := ⟨n - 1, by omega⟩
    obtain ⟨i1, j1, e1⟩ := walk_of_loop a m [] (some (.d (.tup a.shape))) none none (by omega) (by simp; omega)
    have e2 := rr_of e1
    have hw := F.walk_len a
    obtain ⟨i2, j2, e3⟩ := walk_of_loop b (m + 1) (acc ++ ((x, false) :: (a.walk ++ [(x, true)]))) v (some (.d (.str x))) (some (.d (.tup a.shape))) (by omega) (by simp; omega)
    refine ⟨i2, j2, ?_⟩
    have step : fR (m + 1) (.tup [.str x, .tup a.shape]) [v, some (walkO acc), i, j] = .ok .nx [v, some (walkO (acc ++ ((x, false) :: (a.walk ++ [(x, true)])))), some (.d (.str x)), some (.d (.tup a.shape))] := by
      have k1 : acc.length < 16777216 := by omega
      have k2 : acc.length + 1 + a.walk.length ≤ 16777216 := by omega
      have k3 : acc.length + (a.walk.length + 1) < 16777216 := by omega
      have k4 : entD (x, false) = .tup [.str x, .int 0] := rfl
      have k5 : entD (x, true) = .tup [.str x, .int 1] := rfl
      simp [fR, runF, evSs, evS, evI, evA, evL, evAs, evC, evCs, evCor, evCand, evAnd, evOr, evKs, ev, killE, backE, opR, opX, partOk, partD, argO, plainA, fnSh, isa1, mtTy, muTy, pathO, setPath, snd2, putFO, posF, fieldD, eqTy, callR, makeR, mkT, iosOf, evens, odds, flatS, Res.noX, rangeD, Fl.whl, phi, List.lookup, putD, PySem.sizeLine_eq, lb_walk_of_1, walkO]
      simp [walkO] at e2
      simp [runF, evSs, evS, evI, evA, evL, evAs, evC, evCs, evCor, evCand, evAnd, evOr, evKs, ev, killE, backE, opR, opX, partOk, partD, argO, plainA, fnSh, isa1, mtTy, muTy, pathO, setPath, snd2, putFO, posF, fieldD, eqTy, callR, makeR, mkT, iosOf, evens, odds, flatS, Res.noX, rangeD, Fl.whl, phi, List.lookup, putD, PySem.sizeLine_eq, e2, k1, k2, k3, k4, k5]
    show forL _ (D.tup [.str x, .tup a.shape] :: b.shape) _ = _
    rw [forL, step]
    refine Eq.trans (b := forL _ b.shape _) rfl (e3.trans ?_)
    have hw2 : acc ++ (F.node x a b).walk = acc ++ ((x, false) :: (a.walk ++ [(x, true)])) ++ b.walk := by
      show acc ++ ((x, false) :: (a.walk ++ (x, true) :: b.walk)) = _
      simp
    rw [hw2]
theorem walk_of {f : F} (h : f.size ≤ 12) : r_walk_of [.d (.tup f.shape)] = .ok (walkO f.walk) [.d (.tup f.shape)] := by
  obtain ⟨i, j, e⟩ := walk_of_loop f 39 [] (some (.d (.tup f.shape))) none none (by omega) (by simp; omega)
  exact rr_of e
end PV.K1
namespace PV.K1
open PySem L2 K01
/-! ### trees made -/
abbrev trK : List Str := ["own_shape", "own_walk", "own_names", "above"]
abbrev F.nmD (f : F) : D := .tup (f.names.map .str)
abbrev F.wkD (f : F) : D := .tup (f.walk.map entD)
abbrev F.shD (f : F) : D := .tup f.shape
/-- a tree; a: its table, owned or not -/
abbrev F.tr (f : F) (a : O) : O := .obj 20 trK [.d f.shD, .d f.wkD, .d f.nmD, a]
theorem posS : posF "own_shape" trK = some 0 := by decide +kernel
theorem posW : posF "own_walk" trK = some 1 := by decide +kernel
theorem posN : posF "own_names" trK = some 2 := by decide +kernel
theorem posA : posF "above" trK = some 3 := by decide +kernel
theorem fieldS {a b c d : D} : fieldD "own_shape" trK [a, b, c, d] = some a := by simp (decide := true) [fieldD, trK]
theorem fieldW {a b c d : D} : fieldD "own_walk" trK [a, b, c, d] = some b := by simp (decide := true) [fieldD, trK]
theorem fieldN {a b c d : D} : fieldD "own_names" trK [a, b, c, d] = some c := by simp (decide := true) [fieldD, trK]
theorem fieldA {a b c d : D} : fieldD "above" trK [a, b, c, d] = some d := by simp (decide := true) [fieldD, trK]
def lastD (os : List Str) : D := match os.getLast? with
  | some x => .str x
  | none => .non
theorem lastD_snoc {os : List Str} {x : Str} : lastD (os ++ [x]) = .str x := by
  unfold lastD
  simp
theorem lastD_scal {os : List Str} : scalD (lastD os) = true := by
  unfold lastD
  cases os.getLast? <;> rfl
theorem eqd_snoc {xs : List D} {y : D} : D.eqd (.lst (xs ++ [y])) (.lst []) = false := by
  rw [D.eqd]
  cases xs <;> simp [D.eqdL]
theorem ab_open {Φ : Phi} {a b c v : O} {ns : List Str} {vs : List D} {os : List Str} {x : Str} {n s : Option O} (h1 : x ∉ ns) (h2 : ns.length < 1000) (h3 : os.length < 1000) :
    (bnd (asgT (.tp [.nm 3, .nm 4]) (entD (x, false)) [some (.obj 20 trK [a, b, c, .dic (ns.map .str) (vs.map .d)]), some v, some (.lst (os.map strO)), n, s]) fun ρ => evSs Φ lb_Tree__init__1 ρ) = .ok .nx [some (.obj 20 trK [a, b, c, .dic ((ns ++ [x]).map .str) ((vs ++ [lastD os]).map .d)]), some v, some (.lst ((os ++ [x]).map strO)), some (.d (.str x)), some (.d (.int 0))] := by
  have k1 : ns.length < 16777216 := by omega
  have k2 : os.length < 16777216 := by omega
  rcases List.eq_nil_or_concat os with rfl | ⟨qs, y, rfl⟩
  · simp [runF, evSs, evS, evI, evA, evL, evAs, evC, evCs, evCor, evCand, evAnd, evOr, evKs, ev, killE, backE, opR, opX, partOk, partD, argO, plainA, fnSh, isa1, mtTy, muTy, pathO, setPath, snd2, eqTy, callR, makeR, mkT, iosOf, evens, odds, flatS, Res.noX, rangeD, Fl.whl, phi, List.lookup, putD, PySem.sizeLine_eq, lb_Tree__init__1, entD]
    simp [runF, evSs, evS, evI, evA, evL, evAs, evC, evCs, evCor, evCand, evAnd, evOr, evKs, ev, killE, backE, opR, opX, partOk, partD, argO, plainA, fnSh, isa1, mtTy, muTy, pathO, setPath, snd2, eqTy, callR, makeR, mkT, iosOf, evens, odds, flatS, Res.noX, rangeD, Fl.whl, phi, List.lookup, putD, PySem.sizeLine_eq, q_eqd_ii, okS, D.okd, D.okdL, D.eqd, D.eqdL, kind_strs, pos_strs h1, k1, posA, lastD]
  · rw [List.concat_eq_append] at *
    simp at k2
    have ho : D.okdL 149 (qs.map (O.frz ∘ strO) ++ [D.str y]) = true := okdL_app (okdL_all fun x hx => by
      obtain ⟨f, hf, rfl⟩ := List.mem_map.mp hx
      exact okd_str) (okdL_all fun x hx => by rw [List.mem_singleton.mp hx]; exact okd_str)
    simp [runF, evSs, evS, evI, evA, evL, evAs, evC, evCs, evCor, evCand, evAnd, evOr, evKs, ev, killE, backE, opR, opX, partOk, partD, argO, plainA, fnSh, isa1, mtTy, muTy, pathO, setPath, snd2, eqTy, callR, makeR, mkT, iosOf, evens, odds, flatS, Res.noX, rangeD, Fl.whl, phi, List.lookup, putD, PySem.sizeLine_eq, lb_Tree__init__1, entD]
    simp [runF, evSs, evS, evI, evA, evL, evAs, evC, evCs, evCor, evCand, evAnd, evOr, evKs, ev, killE, backE, opR, opX, partOk, partD, argO, plainA, fnSh, isa1, mtTy, muTy, pathO, setPath, snd2, eqTy, callR, makeR, mkT, iosOf, evens, odds, flatS, Res.noX, rangeD, Fl.whl, phi, List.lookup, putD, PySem.sizeLine_eq, q_eqd_ii, okS, D.okd, D.okdL, ho, eqd_snoc, atI_last, kind_strs, pos_strs h1, k1, k2, posA, lastD_snoc]
theorem ab_close {Φ : Phi} {o v : Option O} {os : List Str} {y x : Str} {n s : Option O} :
    (bnd (asgT (.tp [.nm 3, .nm 4]) (entD (x, true)) [o, v, some (.lst ((os ++ [y]).map strO)), n, s]) fun ρ => evSs Φ lb_Tree__init__1 ρ) = .ok .nx [o, v, some (.lst (os.map strO)), some (.d (.str x)), some (.d (.int 1))] := by
  simp [runF, evSs, evS, evI, evA, evL, evAs, evC, evCs, evCor, evCand, evAnd, evOr, evKs, ev, killE, backE, opR, opX, partOk, partD, argO, plainA, fnSh, isa1, mtTy, muTy, pathO, setPath, snd2, eqTy, callR, makeR, mkT, iosOf, evens, odds, flatS, Res.noX, rangeD, Fl.whl, phi, List.lookup, putD, PySem.sizeLine_eq, lb_Tree__init__1, entD]
  simp [runF, evSs, evS, evI, evA, evL, evAs, evC, evCs, evCor, evCand, evAnd, evOr, evKs, ev, killE, backE, opR, opX, partOk, partD, argO, plainA, fnSh, isa1, mtTy, muTy, pathO, setPath, snd2, eqTy, callR, makeR, mkT, iosOf, evens, odds, flatS, Res.noX, rangeD, Fl.whl, phi, List.lookup, putD, PySem.sizeLine_eq, q_eqd_ii, okS, okd_int]
theorem ab_loop {Φ : Phi} {oa ob oc v : O} : ∀ (f : F) (rest : List D) (ns : List Str) (vs : List D) (os : List Str) (n s : Option O), (ns ++ f.names).Nodup → ns.length + f.size < 1000 → os.length + f.size < 1000 →
    ∃ n' s', forL (fun x ρ => bnd (asgT (.tp [.nm 3, .nm 4]) x ρ) fun ρ => evSs Φ lb_Tree__init__1 ρ) (f.walk.map entD ++ rest) [some (.obj 20 trK [oa, ob, oc, .dic (ns.map .str) (vs.map .d)]), some v, some (.lst (os.map strO)), n, s] =
      forL (fun x ρ => bnd (asgT (.tp [.nm 3, .nm 4]) x ρ) fun ρ => evSs Φ lb_Tree__init__1 ρ) rest [some (.obj 20 trK [oa, ob, oc, .dic ((ns ++ f.names).map .str) ((vs ++ f.pars (lastD os)).map .d)]), some v, some (.lst (os.map strO)), n', s']
  | .nil, rest, ns, vs, os, n, s, _, _, _ => ⟨n, s, by show forL _ rest _ = _; rw [show ns ++ F.nil.names = ns from List.append_nil _, show vs ++ F.nil.pars (lastD os) = vs from List.append_nil _]⟩
  | .node x a b, rest, ns, vs, os, n, s, nd, h1, h2 => by
    have hs : (F.node x a b).size = 1 + a.size + b.size := rfl
    have hn : ns ++ (F.node x a b).names = (ns ++ [x] ++ a.names) ++ b.names := by
      show ns ++ (x :: (a.names ++ b.names)) = _
      simp
    have hv : vs ++ (F.node x a b).pars (lastD os) = (vs ++ [lastD os] ++ a.pars (.str x)) ++ b.pars (lastD os) := by
      show vs ++ (lastD os :: (a.pars (.str x) ++ b.pars (lastD os))) = _
      simp
    rw [hn] at nd
    rw [hs] at h1 h2
    have nda := (List.nodup_append.mp nd).1
    have nx : x ∉ ns := fun z => (List.nodup_append.mp (List.nodup_append.mp nda).1).2.2 x z x (List.mem_singleton.mpr rfl) rfl
    have la := F.names_len a
    obtain ⟨n1, s1, e1⟩ := ab_loop (Φ := Φ) a (entD (x, true) :: (b.walk.map entD ++ rest)) (ns ++ [x]) (vs ++ [lastD os]) (os ++ [x]) (some (.d (.str x))) (some (.d (.int 0))) nda (by simp; omega) (by simp; omega)
    obtain ⟨n2, s2, e2⟩ := ab_loop (Φ := Φ) b rest (ns ++ [x] ++ a.names) (vs ++ [lastD os] ++ a.pars (.str x)) os (some (.d (.str x))) (some (.d (.int 1))) nd (by simp; omega) (by omega)
    refine ⟨n2, s2, ?_⟩
    have hw : (F.node x a b).walk.map entD ++ rest = entD (x, false) :: (a.walk.map entD ++ (entD (x, true) :: (b.walk.map entD ++ rest))) := by
      show ((x, false) :: (a.walk ++ (x, true) :: b.walk)).map entD ++ rest = _
      simp
    rw [lastD_snoc] at e1
    rw [hw, forL, ab_open nx (by omega) (by omega)]
    refine Eq.trans (b := forL _ (a.walk.map entD ++ (entD (x, true) :: (b.walk.map entD ++ rest))) _) rfl (e1.trans ?_)
    rw [forL, ab_close]
    refine Eq.trans (b := forL _ (b.walk.map entD ++ rest) _) rfl (e2.trans ?_)
    rw [hn, hv]
noncomputable abbrev ΦI : Phi := phi [(3, r_is_shape), (4, r_walk_of)]
theorem init {f : F} (h : FOk f) : r_Tree__init_ [.obj 20 [] [], .d (.tup f.shape)] = .ok (.d .non) [f.tr f.dicO, .d (.tup f.shape)] := by
  have e1 := is_shape h
  have e2 := walk_of h.sz
  obtain ⟨n, s, e3⟩ := ab_loop (Φ := ΦI) (oa := .d f.shD) (ob := .d f.wkD) (oc := .d f.nmD) (v := .d (.tup f.shape)) f [] [] [] [] none none (by simpa using h.nd) (by have := h.sz; simp; omega) (by have := h.sz; simp; omega)
  have e4 : ∀ o1 o2, compL (fun x ρ => bnd (asgT (.tp [.nm 3, .nm 4]) x ρ) fun ρ => (evCs ΦI ci_Tree__init__1 ρ).bind fun b ρ => tst b ((ev ΦI ce_Tree__init__1 ρ).bind fun o ρ => .ok (some o) (killE [3, 4] ρ)) (.ok none (killE [3, 4] ρ))) (f.walk.map entD) [o1, o2, none, none, none] = .ok (f.names.map strO) [o1, o2, none, none, none] := by
    intro o1 o2
    rw [comp_fil (p := fun e => !e.2) (g := fun e => strO e.1), ← F.opens_walk f]
    · unfold opens
      rw [List.map_map]
      rfl
    · intro e _
      obtain ⟨x, b⟩ := e
      cases b <;> simp [runF, evSs, evS, evI, evA, evL, evAs, evC, evCs, evCor, evCand, evAnd, evOr, evKs, ev, killE, backE, opR, opX, partOk, partD, argO, plainA, fnSh, isa1, mtTy, muTy, pathO, setPath, snd2, eqTy, callR, makeR, mkT, iosOf, evens, odds, flatS, Res.noX, rangeD, Fl.whl, phi, List.lookup, putD, PySem.sizeLine_eq, ce_Tree__init__1, ci_Tree__init__1, entD] <;> simp [runF, evSs, evS, evI, evA, evL, evAs, evC, evCs, evCor, evCand, evAnd, evOr, evKs, ev, killE, backE, opR, opX, partOk, partD, argO, plainA, fnSh, isa1, mtTy, muTy, pathO, setPath, snd2, eqTy, callR, makeR, mkT, iosOf, evens, odds, flatS, Res.noX, rangeD, Fl.whl, phi, List.lookup, putD, PySem.sizeLine_eq, q_eqd_ii, okS, okd_int]
  refine (runD_eq (by rfl) (by rfl)).trans ?_
  rw [bb_Tree__init_]
  simp [runF, evSs, evS, evI, evA, evL, evAs, evC, evCs, evCor, evCand, evAnd, evOr, evKs, ev, killE, backE, opR, opX, partOk, partD, argO, plainA, fnSh, isa1, mtTy, muTy, pathO, setPath, snd2, eqTy, callR, makeR, mkT, iosOf, evens, odds, flatS, Res.noX, rangeD, Fl.whl, phi, List.lookup, putD, PySem.sizeLine_eq] at e3 e4
  simp [runF, evSs, evS, evI, evA, evL, evAs, evC, evCs, evCor, evCand, evAnd, evOr, evKs, ev, killE, backE, opR, opX, partOk, partD, argO, plainA, fnSh, isa1, mtTy, muTy, pathO, setPath, snd2, eqTy, callR, makeR, mkT, iosOf, evens, odds, flatS, Res.noX, rangeD, Fl.whl, phi, List.lookup, putD, PySem.sizeLine_eq, e1]
  have hd : PV.dicO [] [] = some (.dic [] []) := by simp [PV.dicO, keysOf]
  simp (decide := true) [runF, evSs, evS, evI, evA, evL, evAs, evC, evCs, evCor, evCand, evAnd, evOr, evKs, ev, killE, backE, opR, opX, partOk, partD, argO, plainA, fnSh, isa1, mtTy, muTy, pathO, setPath, snd2, putFO, posF, fieldD, eqTy, callR, makeR, mkT, iosOf, evens, odds, flatS, Res.noX, rangeD, Fl.whl, phi, List.lookup, putD, PySem.sizeLine_eq, e2, e4, frz_w, Function.comp_def, hd]
  simp only [forL] at e3
  simp [runF, evSs, evS, evI, evA, evL, evAs, evC, evCs, evCor, evCand, evAnd, evOr, evKs, ev, killE, backE, opR, opX, partOk, partD, argO, plainA, fnSh, isa1, mtTy, muTy, pathO, setPath, snd2, putFO, posF, fieldD, eqTy, callR, makeR, mkT, iosOf, evens, odds, flatS, Res.noX, rangeD, Fl.whl, phi, List.lookup, putD, PySem.sizeLine_eq, e3]
  rfl
end PV.K1
namespace PV.K1
open PySem L2 K01
@[simp] theorem ios_tr {f : F} {a : O} {os : List O} {o : O} {ρ : Env} : iosOf (f.tr a :: os) (some o :: ρ) = (iosOf os ρ).map (o :: ·) := rfl
theorem t_shape {f : F} {a : O} : r_Tree_shape [f.tr a] = .ok (.d f.shD) [f.tr a] := by
  refine (runD_eq (by rfl) (by rfl)).trans ?_
  rw [bb_Tree_shape]
  simp [runF, evSs, evS, evI, evA, evL, evAs, evC, evCs, evCor, evCand, evAnd, evOr, evKs, ev, killE, backE, opR, opX, partOk, partD, argO, plainA, fnSh, isa1, mtTy, muTy, pathO, setPath, snd2, eqTy, callR, makeR, mkT, iosOf, evens, odds, flatS, Res.noX, rangeD, Fl.whl, phi, List.lookup, putD, PySem.sizeLine_eq, fieldS, posS]
theorem t_walk {f : F} {a : O} : r_Tree_walk [f.tr a] = .ok (.d f.wkD) [f.tr a] := by
  refine (runD_eq (by rfl) (by rfl)).trans ?_
  rw [bb_Tree_walk]
  simp [runF, evSs, evS, evI, evA, evL, evAs, evC, evCs, evCor, evCand, evAnd, evOr, evKs, ev, killE, backE, opR, opX, partOk, partD, argO, plainA, fnSh, isa1, mtTy, muTy, pathO, setPath, snd2, eqTy, callR, makeR, mkT, iosOf, evens, odds, flatS, Res.noX, rangeD, Fl.whl, phi, List.lookup, putD, PySem.sizeLine_eq, fieldW, posW]
theorem t_names {f : F} {a : O} : r_Tree_names [f.tr a] = .ok (.d f.nmD) [f.tr a] := by
  refine (runD_eq (by rfl) (by rfl)).trans ?_
  rw [bb_Tree_names]
  simp [runF, evSs, evS, evI, evA, evL, evAs, evC, evCs, evCor, evCand, evAnd, evOr, evKs, ev, killE, backE, opR, opX, partOk, partD, argO, plainA, fnSh, isa1, mtTy, muTy, pathO, setPath, snd2, eqTy, callR, makeR, mkT, iosOf, evens, odds, flatS, Res.noX, rangeD, Fl.whl, phi, List.lookup, putD, PySem.sizeLine_eq, fieldN, posN]
theorem t_len {f : F} {a : O} : r_Tree__len_ [f.tr a] = .ok (.d (.int f.names.length)) [f.tr a] := by
  refine (runD_eq (by rfl) (by rfl)).trans ?_
  rw [bb_Tree__len_]
  simp [runF, evSs, evS, evI, evA, evL, evAs, evC, evCs, evCor, evCand, evAnd, evOr, evKs, ev, killE, backE, opR, opX, partOk, partD, argO, plainA, fnSh, isa1, mtTy, muTy, pathO, setPath, snd2, eqTy, callR, makeR, mkT, iosOf, evens, odds, flatS, Res.noX, rangeD, Fl.whl, phi, List.lookup, putD, PySem.sizeLine_eq, fieldN, posN]
theorem t_in {f : F} {a : O} {k : D} {b : Bool} (h : cmpD.inD k f.nmD = some b) : r_Tree__contains_ [f.tr a, .d k] = .ok (.d (.bl b)) [f.tr a, .d k] := by
  refine (runD_eq (by rfl) (by rfl)).trans ?_
  rw [bb_Tree__contains_]
  simp [runF, evSs, evS, evI, evA, evL, evAs, evC, evCs, evCor, evCand, evAnd, evOr, evKs, ev, killE, backE, opR, opX, partOk, partD, argO, plainA, fnSh, isa1, mtTy, muTy, pathO, setPath, snd2, eqTy, callR, makeR, mkT, iosOf, evens, odds, flatS, Res.noX, rangeD, Fl.whl, phi, List.lookup, putD, PySem.sizeLine_eq, fieldN, posN, -q_intu]
  simp [runF, evSs, evS, evI, evA, evL, evAs, evC, evCs, evCor, evCand, evAnd, evOr, evKs, ev, killE, backE, opR, opX, partOk, partD, argO, plainA, fnSh, isa1, mtTy, muTy, pathO, setPath, snd2, eqTy, callR, makeR, mkT, iosOf, evens, odds, flatS, Res.noX, rangeD, Fl.whl, phi, List.lookup, putD, PySem.sizeLine_eq, h, -q_intu]
theorem t_eq {f g : F} {a b : O} (hf : f.size ≤ 12) (hg : g.size ≤ 12) : r_Tree__eq_ [f.tr a, g.tr b] = .ok (.d (.bl (D.eqd f.shD g.shD))) [f.tr a, g.tr b] := by
  refine (runD_eq (by rfl) (by rfl)).trans ?_
  rw [bb_Tree__eq_]
  have h1 : okS (.tup f.shape) (.tup g.shape) = true := by
    unfold okS
    rw [okd_sh (by omega), okd_sh (by omega)]
    rfl
  simp [runF, evSs, evS, evI, evA, evL, evAs, evC, evCs, evCor, evCand, evAnd, evOr, evKs, ev, killE, backE, opR, opX, partOk, partD, argO, plainA, fnSh, isa1, mtTy, muTy, pathO, setPath, snd2, eqTy, callR, makeR, mkT, iosOf, evens, odds, flatS, Res.noX, rangeD, Fl.whl, phi, List.lookup, putD, PySem.sizeLine_eq, fieldS, posS, h1]
theorem t_eqD {f : F} {a : O} {k : D} (h : isaD [20] [.cls 20] [k] = some (.d (.bl false))) : r_Tree__eq_ [f.tr a, .d k] = .ok (.d (.bl false)) [f.tr a, .d k] := by
  refine (runD_eq (by rfl) (by rfl)).trans ?_
  rw [bb_Tree__eq_]
  simp [runF, evSs, evS, evI, evA, evL, evAs, evC, evCs, evCor, evCand, evAnd, evOr, evKs, ev, killE, backE, opR, opX, partOk, partD, argO, plainA, fnSh, isa1, mtTy, muTy, pathO, setPath, snd2, eqTy, callR, makeR, mkT, iosOf, evens, odds, flatS, Res.noX, rangeD, Fl.whl, phi, List.lookup, putD, PySem.sizeLine_eq, h]
theorem in_names {f : F} {x : Str} : cmpD.inD (.str x) f.nmD = some (decide (x ∈ f.names)) := by
  simp [okd_str, okd_strs, any_str, Function.comp_def]
theorem t_need {f : F} {a : O} {x : Str} (h : x ∈ f.names) : r_Tree_need_name [f.tr a, .d (.str x)] = .ok (.d .non) [f.tr a, .d (.str x)] := by
  refine (runD_eq (by rfl) (by rfl)).trans ?_
  rw [bb_Tree_need_name]
  simp [runF, evSs, evS, evI, evA, evL, evAs, evC, evCs, evCor, evCand, evAnd, evOr, evKs, ev, killE, backE, opR, opX, partOk, partD, argO, plainA, fnSh, isa1, mtTy, muTy, pathO, setPath, snd2, eqTy, callR, makeR, mkT, iosOf, evens, odds, flatS, Res.noX, rangeD, Fl.whl, phi, List.lookup, putD, PySem.sizeLine_eq, fieldN, posN, in_names, h, -q_intu]
/-- what a name is hung on -/
def F.par (f : F) (x : Str) : D := (lookD (.str x) (f.names.map .str) (f.pars .non)).getD .non
theorem look_some {x : Str} : ∀ {ns : List Str} {vs : List D}, ns.length = vs.length → x ∈ ns → ∃ d ∈ vs, lookD (.str x) (ns.map .str) vs = some d
  | y :: ns, v :: vs, hl, hx => by
    show ∃ d ∈ v :: vs, (if keyOf (.str y) = keyOf (.str x) ∧ tkeyOf (.str y) = tkeyOf (.str x) then some v else lookD (.str x) (ns.map .str) vs) = some d
    by_cases h : y = x
    · rw [if_pos (key_str.mpr h)]
      exact ⟨v, List.mem_cons_self, rfl⟩
    · rw [if_neg fun z => h (key_str.mp z)]
      obtain ⟨d, h1, h2⟩ := look_some (ns := ns) (vs := vs) (by simpa using hl) ((List.mem_cons.mp hx).resolve_left fun z => h z.symm)
      exact ⟨d, List.mem_cons_of_mem _ h1, h2⟩
theorem F.pars_str {p : D} : ∀ (f : F), ∀ d ∈ f.pars p, d = p ∨ ∃ x ∈ f.names, d = .str x
  | .nil, d, h => by cases h
  | .node x a b, d, h => by
    have hm : ∀ y, y ∈ (F.node x a b).names ↔ y ∈ x :: (a.names ++ b.names) := fun _ => Iff.rfl
    have h : d ∈ p :: (a.pars (.str x) ++ b.pars p) := h
    rcases List.mem_cons.mp h with q | q
    · exact .inl q
    · rcases List.mem_append.mp q with q | q
      · rcases F.pars_str a d q with e | ⟨y, hy, e⟩
        · exact .inr ⟨x, List.mem_cons_self, e⟩
        · exact .inr ⟨y, List.mem_cons_of_mem _ (List.mem_append_left _ hy), e⟩
      · rcases F.pars_str b d q with e | ⟨y, hy, e⟩
        · exact .inl e
        · exact .inr ⟨y, List.mem_cons_of_mem _ (List.mem_append_right _ hy), e⟩
theorem F.par_at {f : F} {x : Str} (h : x ∈ f.names) : lookD (.str x) (f.names.map .str) (f.pars .non) = some (f.par x) ∧ (f.par x = .non ∨ ∃ y ∈ f.names, f.par x = .str y) := by
  obtain ⟨d, h1, h2⟩ := look_some (x := x) (ns := f.names) (vs := f.pars .non) (by rw [F.names_len, F.pars_len]) h
  have e : f.par x = d := by unfold F.par; rw [h2]; rfl
  rw [e]
  exact ⟨h2, F.pars_str f d h1⟩
theorem ix_par {f : F} {x : Str} (h : x ∈ f.names) {o : O} {k : D} : ixBack o k (.d (f.par x)) = o := by
  rcases (F.par_at h).2 with e | ⟨y, _, e⟩ <;> rw [e] <;> rfl
theorem t_parent {f : F} {a : O} {x : Str} (ha : a.frz = f.dicD) (h : x ∈ f.names) : r_Tree_parent [f.tr a, .d (.str x)] = .ok (.d (f.par x)) [f.tr (.d f.dicD), .d (.str x)] := by
  refine (runD_eq (by rfl) (by rfl)).trans ?_
  rw [bb_Tree_parent]
  have hn : ¬ (Str.ofString "need_name") ∈ trK := by decide +kernel
  simp (decide := true) [runF, evSs, evS, evI, evA, evL, evAs, evC, evCs, evCor, evCand, evAnd, evOr, evKs, ev, killE, backE, opR, opX, partOk, partD, argO, plainA, fnSh, isa1, mtTy, muTy, pathO, setPath, snd2, eqTy, callR, makeR, mkT, iosOf, evens, odds, flatS, Res.noX, rangeD, Fl.whl, phi, List.lookup, putD, PySem.sizeLine_eq]
  simp [runF, evSs, evS, evI, evA, evL, evAs, evC, evCs, evCor, evCand, evAnd, evOr, evKs, ev, killE, backE, opR, opX, partOk, partD, argO, plainA, fnSh, isa1, mtTy, muTy, pathO, setPath, snd2, eqTy, callR, makeR, mkT, iosOf, evens, odds, flatS, Res.noX, rangeD, Fl.whl, phi, List.lookup, putD, PySem.sizeLine_eq, t_need h, fieldA, posA, ha, kind_strs, (F.par_at h).1]
end PV.K1
namespace PV.K1
open PySem L2 K01
theorem comp_filI {α : Type} {I : Env → Prop} {f : D → Env → Res (Option O)} {a : α → D} {p : α → Bool} {g : α → O} : ∀ {xs : List α}, (∀ x ∈ xs, ∀ ρ, I ρ → ∃ ρ', I ρ' ∧ f (a x) ρ = .ok (if p x then some (g x) else none) ρ') → ∀ ρ, I ρ → ∃ ρ', I ρ' ∧ compL f (xs.map a) ρ = .ok ((xs.filter p).map g) ρ'
  | [], _, ρ, hI => ⟨ρ, hI, rfl⟩
  | x :: xs, h, ρ, hI => by
    obtain ⟨ρ1, h1, e1⟩ := h x List.mem_cons_self ρ hI
    obtain ⟨ρ2, h2, e2⟩ := comp_filI (fun y hy => h y (List.mem_cons_of_mem _ hy)) ρ1 h1
    refine ⟨ρ2, h2, ?_⟩
    rw [List.map_cons, compL, e1]
    simp only [Res.bind_ok]
    rw [e2, List.filter_cons]
    cases p x <;> rfl
theorem okd_non {n : Nat} : D.okd n .non = true := by cases n <;> rw [D.okd]
theorem okd_par {f : F} {x : Str} (h : x ∈ f.names) {n : Nat} : D.okd n (f.par x) = true := by
  rcases (F.par_at h).2 with e | ⟨y, _, e⟩ <;> rw [e]
  · exact okd_non
  · exact okd_str
def F.kids (f : F) (nm : D) : List Str := f.names.filter fun x => D.eqd (f.par x) nm
/-- a tree whose table is this one -/
def TI (f : F) (rest : List (Option O)) (ρ : Env) : Prop := ∃ a : O, a.frz = f.dicD ∧ ρ = some (f.tr a) :: rest
theorem t_children {f : F} {a : O} {x : Str} (ha : a.frz = f.dicD) (h : x ∈ f.names) : ∃ a' : O, a'.frz = f.dicD ∧ r_Tree_children [f.tr a, .d (.str x)] = .ok (.lst ((f.kids (.str x)).map strO)) [f.tr a', .d (.str x)] := by
  have hn : ¬ (Str.ofString "need_name") ∈ trK := by decide +kernel
  obtain ⟨ρ', ⟨a', ha', rfl⟩, e⟩ := comp_filI (I := TI f [some (.d (.str x)), none]) (f := fun x ρ => bnd (asgT (.nm 2) x ρ) fun ρ => (evCs (phi [(14, r_Tree_need_name)]) ci_Tree_children_1 ρ).bind fun b ρ => tst b ((ev (phi [(14, r_Tree_need_name)]) ce_Tree_children_1 ρ).bind fun o ρ => .ok (some o) (killE [2] ρ)) (.ok none (killE [2] ρ))) (a := D.str) (p := fun y => D.eqd (f.par y) (.str x)) (g := strO) (xs := f.names) (fun y hy ρ ⟨b, hb, e⟩ => by
      subst e
      refine ⟨_, ⟨.d f.dicD, p_frz_d, rfl⟩, ?_⟩
      simp [runF, evSs, evS, evI, evA, evL, evAs, evC, evCs, evCor, evCand, evAnd, evOr, evKs, ev, killE, backE, opR, opX, partOk, partD, argO, plainA, fnSh, isa1, mtTy, muTy, pathO, setPath, snd2, eqTy, callR, makeR, mkT, iosOf, evens, odds, flatS, Res.noX, rangeD, Fl.whl, phi, List.lookup, putD, PySem.sizeLine_eq, ci_Tree_children_1, ce_Tree_children_1]
      simp [runF, evSs, evS, evI, evA, evL, evAs, evC, evCs, evCor, evCand, evAnd, evOr, evKs, ev, killE, backE, opR, opX, partOk, partD, argO, plainA, fnSh, isa1, mtTy, muTy, pathO, setPath, snd2, eqTy, callR, makeR, mkT, iosOf, evens, odds, flatS, Res.noX, rangeD, Fl.whl, phi, List.lookup, putD, PySem.sizeLine_eq, fieldA, posA, hb, kind_strs, (F.par_at hy).1, ix_par hy, okS, okd_par hy, okd_str]
      cases D.eqd (f.par y) (.str x) <;> simp [runF, evSs, evS, evI, evA, evL, evAs, evC, evCs, evCor, evCand, evAnd, evOr, evKs, ev, killE, backE, opR, opX, partOk, partD, argO, plainA, fnSh, isa1, mtTy, muTy, pathO, setPath, snd2, eqTy, callR, makeR, mkT, iosOf, evens, odds, flatS, Res.noX, rangeD, Fl.whl, phi, List.lookup, putD, PySem.sizeLine_eq]) [some (f.tr a), some (.d (.str x)), none] ⟨a, ha, rfl⟩
  refine ⟨a', ha', (runD_eq (by rfl) (by rfl)).trans ?_⟩
  rw [bb_Tree_children]
  simp [runF, evSs, evS, evI, evA, evL, evAs, evC, evCs, evCor, evCand, evAnd, evOr, evKs, ev, killE, backE, opR, opX, partOk, partD, argO, plainA, fnSh, isa1, mtTy, muTy, pathO, setPath, snd2, eqTy, callR, makeR, mkT, iosOf, evens, odds, flatS, Res.noX, rangeD, Fl.whl, phi, List.lookup, putD, PySem.sizeLine_eq] at e
  simp (decide := true) [runF, evSs, evS, evI, evA, evL, evAs, evC, evCs, evCor, evCand, evAnd, evOr, evKs, ev, killE, backE, opR, opX, partOk, partD, argO, plainA, fnSh, isa1, mtTy, muTy, pathO, setPath, snd2, eqTy, callR, makeR, mkT, iosOf, evens, odds, flatS, Res.noX, rangeD, Fl.whl, phi, List.lookup, putD, PySem.sizeLine_eq]
  simp [runF, evSs, evS, evI, evA, evL, evAs, evC, evCs, evCor, evCand, evAnd, evOr, evKs, ev, killE, backE, opR, opX, partOk, partD, argO, plainA, fnSh, isa1, mtTy, muTy, pathO, setPath, snd2, eqTy, callR, makeR, mkT, iosOf, evens, odds, flatS, Res.noX, rangeD, Fl.whl, phi, List.lookup, putD, PySem.sizeLine_eq, t_need h, fieldN, posN, e]
  rfl
theorem is_par {f : F} {x : Str} (h : x ∈ f.names) : cmpD .is (f.par x) .non = some (D.eqd (f.par x) .non) := by
  rcases (F.par_at h).2 with e | ⟨y, _, e⟩ <;> rw [e] <;> simp [D.eqd]
theorem t_roots {f : F} {a : O} (ha : a.frz = f.dicD) : ∃ a' : O, a'.frz = f.dicD ∧ r_Tree_roots [f.tr a] = .ok (.lst ((f.kids .non).map strO)) [f.tr a'] := by
  obtain ⟨ρ', ⟨a', ha', rfl⟩, e⟩ := comp_filI (I := TI f [none]) (f := fun x ρ => bnd (asgT (.nm 1) x ρ) fun ρ => (evCs (phi []) ci_Tree_roots_1 ρ).bind fun b ρ => tst b ((ev (phi []) ce_Tree_roots_1 ρ).bind fun o ρ => .ok (some o) (killE [1] ρ)) (.ok none (killE [1] ρ))) (a := D.str) (p := fun y => D.eqd (f.par y) .non) (g := strO) (xs := f.names) (fun y hy ρ ⟨b, hb, e⟩ => by
      subst e
      refine ⟨_, ⟨.d f.dicD, p_frz_d, rfl⟩, ?_⟩
      simp [runF, evSs, evS, evI, evA, evL, evAs, evC, evCs, evCor, evCand, evAnd, evOr, evKs, ev, killE, backE, opR, opX, partOk, partD, argO, plainA, fnSh, isa1, mtTy, muTy, pathO, setPath, snd2, eqTy, callR, makeR, mkT, iosOf, evens, odds, flatS, Res.noX, rangeD, Fl.whl, phi, List.lookup, putD, PySem.sizeLine_eq, ci_Tree_roots_1, ce_Tree_roots_1]
      simp [runF, evSs, evS, evI, evA, evL, evAs, evC, evCs, evCor, evCand, evAnd, evOr, evKs, ev, killE, backE, opR, opX, partOk, partD, argO, plainA, fnSh, isa1, mtTy, muTy, pathO, setPath, snd2, eqTy, callR, makeR, mkT, iosOf, evens, odds, flatS, Res.noX, rangeD, Fl.whl, phi, List.lookup, putD, PySem.sizeLine_eq, fieldA, posA, hb, kind_strs, (F.par_at hy).1, ix_par hy, is_par hy]
      cases D.eqd (f.par y) .non <;> simp [runF, evSs, evS, evI, evA, evL, evAs, evC, evCs, evCor, evCand, evAnd, evOr, evKs, ev, killE, backE, opR, opX, partOk, partD, argO, plainA, fnSh, isa1, mtTy, muTy, pathO, setPath, snd2, eqTy, callR, makeR, mkT, iosOf, evens, odds, flatS, Res.noX, rangeD, Fl.whl, phi, List.lookup, putD, PySem.sizeLine_eq]) [some (f.tr a), none] ⟨a, ha, rfl⟩
  refine ⟨a', ha', (runD_eq (by rfl) (by rfl)).trans ?_⟩
  rw [bb_Tree_roots]
  simp [runF, evSs, evS, evI, evA, evL, evAs, evC, evCs, evCor, evCand, evAnd, evOr, evKs, ev, killE, backE, opR, opX, partOk, partD, argO, plainA, fnSh, isa1, mtTy, muTy, pathO, setPath, snd2, eqTy, callR, makeR, mkT, iosOf, evens, odds, flatS, Res.noX, rangeD, Fl.whl, phi, List.lookup, putD, PySem.sizeLine_eq] at e
  simp [runF, evSs, evS, evI, evA, evL, evAs, evC, evCs, evCor, evCand, evAnd, evOr, evKs, ev, killE, backE, opR, opX, partOk, partD, argO, plainA, fnSh, isa1, mtTy, muTy, pathO, setPath, snd2, eqTy, callR, makeR, mkT, iosOf, evens, odds, flatS, Res.noX, rangeD, Fl.whl, phi, List.lookup, putD, PySem.sizeLine_eq, fieldN, posN]
  simp [runF, evSs, evS, evI, evA, evL, evAs, evC, evCs, evCor, evCand, evAnd, evOr, evKs, ev, killE, backE, opR, opX, partOk, partD, argO, plainA, fnSh, isa1, mtTy, muTy, pathO, setPath, snd2, eqTy, callR, makeR, mkT, iosOf, evens, odds, flatS, Res.noX, rangeD, Fl.whl, phi, List.lookup, putD, PySem.sizeLine_eq, e]
  rfl
end PV.K1
namespace PV.K1
open PySem L2 K01
theorem eqd_refl : ∀ (n : Nat) (x : D), D.okd n x = true → D.eqd x x = true
  | n, .non, _ => by rw [D.eqd]
  | n, .bl b, _ => by rw [D.eqd]; simp
  | n, .int i, _ => by rw [D.eqd]; simp
  | n, .str s, _ => by rw [D.eqd]; simp
  | 0, .tup xs, h => by simp [D.okd] at h
  | 0, .lst xs, h => by simp [D.okd] at h
  | n + 1, .tup xs, h => by
    rw [D.okd] at h
    rw [D.eqd]
    exact go n xs h
  | n + 1, .lst xs, h => by
    rw [D.okd] at h
    rw [D.eqd]
    exact go n xs h
  | 0, .dic _ _, h => by simp [D.okd] at h
  | n + 1, .dic _ _, h => by simp [D.okd] at h
  | 0, .obj _ _ _, h => by simp [D.okd] at h
  | n + 1, .obj _ _ _, h => by simp [D.okd] at h
  | 0, .exc _ _, h => by simp [D.okd] at h
  | n + 1, .exc _ _, h => by simp [D.okd] at h
where go : ∀ (n : Nat) (xs : List D), D.okdL n xs = true → D.eqdL xs xs = true
  | n, [], _ => by rw [D.eqdL]
  | n, x :: xs, h => by
    rw [D.okdL, Bool.and_eq_true] at h
    rw [D.eqdL, eqd_refl n x h.1, go n xs h.2]
    rfl
theorem okd_strl {n : Nat} {xs : List Str} : D.okd (n + 1) (.lst (xs.map .str)) = true := by rw [D.okd]; exact okd_strs xs
theorem okd_strt {n : Nat} {xs : List Str} : D.okd (n + 1) (.tup (xs.map .str)) = true := by rw [D.okd]; exact okd_strs xs
theorem strs_refl {xs : List Str} : D.eqd (.lst (xs.map .str)) (.lst (xs.map .str)) = true := eqd_refl 150 _ okd_strl
noncomputable abbrev ΦT : Phi := phi [(16, r_Tree_children), (17, r_Tree_roots)]
theorem kids_len {f : F} {nm : D} : (f.kids nm).length ≤ f.size := by
  unfold F.kids
  rw [← F.names_len]
  exact List.length_filter_le _ _
def NmOf (f : F) (nm : D) : Prop := nm = .non ∨ ∃ x ∈ f.names, nm = .str x
theorem lr_in {f : F} (hz : f.size ≤ 12) {a h : O} {nm x : D} {t to : Option O} (ha : a.frz = f.dicD) (hn : NmOf f nm) : ∃ a' : O, a'.frz = f.dicD ∧
    (bnd (asgT (.nm 4) x [some (f.tr a), some h, some (.d nm), some (.lst ((f.kids nm).map strO)), t, to, none]) fun ρ => evSs ΦT lb_l_lists_right_1 ρ) = .ok .nx [some (f.tr a'), some h, some (.d nm), some (.lst ((f.kids nm).map strO)), some (.d x), some (.lst ((f.kids nm ++ [Str.ofString "zz"]).map strO)), none] := by
  have kl := kids_len (f := f) (nm := nm)
  have k1 : (f.kids nm).length < 16777216 := by omega
  have h1 : ¬ (Str.ofString "roots") ∈ trK := by decide +kernel
  have h2 : ¬ (Str.ofString "children") ∈ trK := by decide +kernel
  have h3 : okS (.lst ((f.kids nm).map .str)) (.lst ((f.kids nm).map .str)) = true := by
    unfold okS
    rw [okd_strl]
    rfl
  rcases hn with rfl | ⟨y, hy, rfl⟩
  · obtain ⟨a', ha', e⟩ := t_roots ha
    refine ⟨a', ha', ?_⟩
    simp (decide := true) [runF, evSs, evS, evI, evA, evL, evAs, evC, evCs, evCor, evCand, evAnd, evOr, evKs, ev, killE, backE, opR, opX, partOk, partD, argO, plainA, fnSh, isa1, mtTy, muTy, pathO, setPath, snd2, eqTy, callR, makeR, mkT, iosOf, evens, odds, flatS, Res.noX, rangeD, Fl.whl, phi, List.lookup, putD, PySem.sizeLine_eq, lb_l_lists_right_1]
    simp [runF, evSs, evS, evI, evA, evL, evAs, evC, evCs, evCor, evCand, evAnd, evOr, evKs, ev, killE, backE, opR, opX, partOk, partD, argO, plainA, fnSh, isa1, mtTy, muTy, pathO, setPath, snd2, eqTy, callR, makeR, mkT, iosOf, evens, odds, flatS, Res.noX, rangeD, Fl.whl, phi, List.lookup, putD, PySem.sizeLine_eq, e, Function.comp_def, h3, strs_refl, k1]
  · obtain ⟨a', ha', e⟩ := t_children ha hy
    refine ⟨a', ha', ?_⟩
    have h4 : cmpD .is (.str y) .non = some false := rfl
    simp (decide := true) [runF, evSs, evS, evI, evA, evL, evAs, evC, evCs, evCor, evCand, evAnd, evOr, evKs, ev, killE, backE, opR, opX, partOk, partD, argO, plainA, fnSh, isa1, mtTy, muTy, pathO, setPath, snd2, eqTy, callR, makeR, mkT, iosOf, evens, odds, flatS, Res.noX, rangeD, Fl.whl, phi, List.lookup, putD, PySem.sizeLine_eq, lb_l_lists_right_1]
    simp [runF, evSs, evS, evI, evA, evL, evAs, evC, evCs, evCor, evCand, evAnd, evOr, evKs, ev, killE, backE, opR, opX, partOk, partD, argO, plainA, fnSh, isa1, mtTy, muTy, pathO, setPath, snd2, eqTy, callR, makeR, mkT, iosOf, evens, odds, flatS, Res.noX, rangeD, Fl.whl, phi, List.lookup, putD, PySem.sizeLine_eq, e, Function.comp_def, h3, strs_refl, k1]
theorem keys_strs : ∀ ns : List Str, keysOf (ns.map .str) = some (ns.map .inr)
  | [] => rfl
  | x :: ns => by
    rw [List.map_cons, keysOf, keys_strs ns]
    rfl
theorem lr_out {f : F} (hz : f.size ≤ 12) {a h : O} {nm : D} {n d t to : Option O} (ha : a.frz = f.dicD) (hh : h.frz = f.dicD) (hn : NmOf f nm) : ∃ (a' : O) (d' t' to' : Option O), a'.frz = f.dicD ∧
    (bnd (asgT (.nm 2) nm [some (f.tr a), some h, n, d, t, to, none]) fun ρ => evSs ΦT lb_l_lists_right_2 ρ) = .ok .nx [some (f.tr a'), some (.d f.dicD), some (.d nm), d', t', to', none] := by
  have hs : scalD nm = true := by rcases hn with rfl | ⟨y, _, rfl⟩ <;> rfl
  have hok : D.okd 150 nm = true := by
    rcases hn with rfl | ⟨y, _, rfl⟩
    · exact okd_non
    · exact okd_str
  have ec : compL (fun x ρ => bnd (asgT (.nm 6) x ρ) fun ρ => (evCs ΦT ci_l_lists_right_1 ρ).bind fun b ρ => tst b ((ev ΦT ce_l_lists_right_1 ρ).bind fun o ρ => .ok (some o) (killE [6] ρ)) (.ok none (killE [6] ρ))) (f.names.map .str) [some (f.tr a), some (.d f.dicD), some (.d nm), d, t, to, none] = .ok ((f.kids nm).map strO) [some (f.tr a), some (.d f.dicD), some (.d nm), d, t, to, none] := by
    refine comp_fil (p := fun x => D.eqd (f.par x) nm) (g := strO) fun y hy => ?_
    simp [runF, evSs, evS, evI, evA, evL, evAs, evC, evCs, evCor, evCand, evAnd, evOr, evKs, ev, killE, backE, opR, opX, partOk, partD, argO, plainA, fnSh, isa1, mtTy, muTy, pathO, setPath, snd2, eqTy, callR, makeR, mkT, iosOf, evens, odds, flatS, Res.noX, rangeD, Fl.whl, phi, List.lookup, putD, PySem.sizeLine_eq, ci_l_lists_right_1, ce_l_lists_right_1]
    simp [runF, evSs, evS, evI, evA, evL, evAs, evC, evCs, evCor, evCand, evAnd, evOr, evKs, ev, killE, backE, opR, opX, partOk, partD, argO, plainA, fnSh, isa1, mtTy, muTy, pathO, setPath, snd2, eqTy, callR, makeR, mkT, iosOf, evens, odds, flatS, Res.noX, rangeD, Fl.whl, phi, List.lookup, putD, PySem.sizeLine_eq, kind_strs, (F.par_at hy).1, ix_par hy, okS, okd_par hy, hok]
    cases D.eqd (f.par y) nm <;> simp [runF, evSs, evS, evI, evA, evL, evAs, evC, evCs, evCor, evCand, evAnd, evOr, evKs, ev, killE, backE, opR, opX, partOk, partD, argO, plainA, fnSh, isa1, mtTy, muTy, pathO, setPath, snd2, eqTy, callR, makeR, mkT, iosOf, evens, odds, flatS, Res.noX, rangeD, Fl.whl, phi, List.lookup, putD, PySem.sizeLine_eq]
  obtain ⟨a1, ha1, e1⟩ := lr_in hz (h := .d f.dicD) (x := .int 0) (t := t) (to := to) ha hn
  obtain ⟨a2, ha2, e2⟩ := lr_in hz (h := .d f.dicD) (x := .int 1) (t := some (.d (.int 0))) (to := some (.lst ((f.kids nm ++ [Str.ofString "zz"]).map strO))) ha1 hn
  have er : rangeL 0 2 = [.int 0, .int 1] := rfl
  refine ⟨a2, some (.lst ((f.kids nm).map strO)), some (.d (.int 1)), some (.lst ((f.kids nm ++ [Str.ofString "zz"]).map strO)), ha2, ?_⟩
  have kd : keysD (.d f.dicD) = some (f.names.map .str) := by
    show (keysOf (f.names.map D.str)).map (fun _ => f.names.map D.str) = _
    rw [keys_strs]
    rfl
  have kh : keysD (.d h.frz) = some (f.names.map .str) := by rw [hh]; exact kd
  simp [runF, evSs, evS, evI, evA, evL, evAs, evC, evCs, evCor, evCand, evAnd, evOr, evKs, ev, killE, backE, opR, opX, partOk, partD, argO, plainA, fnSh, isa1, mtTy, muTy, pathO, setPath, snd2, eqTy, callR, makeR, mkT, iosOf, evens, odds, flatS, Res.noX, rangeD, Fl.whl, phi, List.lookup, putD, PySem.sizeLine_eq] at ec e1 e2
  simp [runF, evSs, evS, evI, evA, evL, evAs, evC, evCs, evCor, evCand, evAnd, evOr, evKs, ev, killE, backE, opR, opX, partOk, partD, argO, plainA, fnSh, isa1, mtTy, muTy, pathO, setPath, snd2, eqTy, callR, makeR, mkT, iosOf, evens, odds, flatS, Res.noX, rangeD, Fl.whl, phi, List.lookup, putD, PySem.sizeLine_eq, lb_l_lists_right_2, kh, kd, hh]
  simp [runF, evSs, evS, evI, evA, evL, evAs, evC, evCs, evCor, evCand, evAnd, evOr, evKs, ev, killE, backE, opR, opX, partOk, partD, argO, plainA, fnSh, isa1, mtTy, muTy, pathO, setPath, snd2, eqTy, callR, makeR, mkT, iosOf, evens, odds, flatS, Res.noX, rangeD, Fl.whl, phi, List.lookup, putD, PySem.sizeLine_eq, ec, er, forL, e1, e2]
theorem lr_loop {f : F} (hz : f.size ≤ 12) : ∀ (nms : List D) (a : O) (n d t to : Option O), (∀ nm ∈ nms, NmOf f nm) → a.frz = f.dicD → ∃ (a' : O) (n' d' t' to' : Option O), a'.frz = f.dicD ∧
    forL (fun x ρ => bnd (asgT (.nm 2) x ρ) fun ρ => evSs ΦT lb_l_lists_right_2 ρ) nms [some (f.tr a), some (.d f.dicD), n, d, t, to, none] = .ok .nx [some (f.tr a'), some (.d f.dicD), n', d', t', to', none]
  | [], a, n, d, t, to, _, ha => ⟨a, n, d, t, to, ha, rfl⟩
  | nm :: nms, a, n, d, t, to, hn, ha => by
    obtain ⟨a1, d1, t1, to1, ha1, e1⟩ := lr_out hz (h := .d f.dicD) (n := n) (d := d) (t := t) (to := to) ha p_frz_d (hn nm List.mem_cons_self)
    obtain ⟨a2, n2, d2, t2, to2, ha2, e2⟩ := lr_loop hz nms a1 (some (.d nm)) d1 t1 to1 (fun x hx => hn x (List.mem_cons_of_mem _ hx)) ha1
    refine ⟨a2, n2, d2, t2, to2, ha2, ?_⟩
    rw [forL, e1]
    exact e2
theorem shal_dicO {f : F} : f.dicO.shal = f.dicO := by
  show O.dic _ (List.map _ (List.map O.d _)) = O.dic _ _
  rw [List.map_map]
  refine congrArg _ (List.map_congr_left fun e _ => ?_)
  exact congrArg O.d p_frz_d
theorem all_keys : ∀ ns : List Str, ((ns.map D.str).all fun k => (keyOf k).isSome) = true
  | [] => rfl
  | x :: ns => by
    rw [List.map_cons, List.all_cons, all_keys ns]
    rfl
theorem lists_right {f : F} (hz : f.size ≤ 12) {a h : O} (ha : a.frz = f.dicD) (hh : h = f.dicO ∨ h = .d f.dicD) : ∃ a' : O, a'.frz = f.dicD ∧ r_l_lists_right [f.tr a, h] = .ok (.d (.bl true)) [f.tr a', .d f.dicD] := by
  have hf : h.frz = f.dicD := by
    rcases hh with rfl | rfl
    · simp
    · exact p_frz_d
  obtain ⟨a1, d1, t1, to1, ha1, e1⟩ := lr_out hz (h := h) (nm := .non) (n := none) (d := none) (t := none) (to := none) ha hf (.inl rfl)
  obtain ⟨a2, n2, d2, t2, to2, ha2, e2⟩ := lr_loop hz (f.names.map .str) a1 (some (.d .non)) d1 t1 to1 (fun x hx => by
    obtain ⟨y, hy, rfl⟩ := List.mem_map.mp hx
    exact .inr ⟨y, hy, rfl⟩) ha1
  have hk := all_keys f.names
  have hl : f.names.length + 1 ≤ 16777216 := by rw [F.names_len]; omega
  have hl2 : 1 + f.names.length ≤ 16777216 := by rw [F.names_len]; omega
  have hl3 : f.names.length ≤ 16777215 := by rw [F.names_len]; omega
  refine ⟨a2, ha2, ?_⟩
  rcases hh with rfl | rfl
  · refine (runD_eq (by rfl) (by rfl)).trans ?_
    rw [bb_l_lists_right]
    simp [runF, evSs, evS, evI, evA, evL, evAs, evC, evCs, evCor, evCand, evAnd, evOr, evKs, ev, killE, backE, opR, opX, partOk, partD, argO, plainA, fnSh, isa1, mtTy, muTy, pathO, setPath, snd2, eqTy, callR, makeR, mkT, iosOf, evens, odds, flatS, Res.noX, rangeD, Fl.whl, phi, List.lookup, putD, PySem.sizeLine_eq] at e1 e2
    simp [runF, evSs, evS, evI, evA, evL, evAs, evC, evCs, evCor, evCand, evAnd, evOr, evKs, ev, killE, backE, opR, opX, partOk, partD, argO, plainA, fnSh, isa1, mtTy, muTy, pathO, setPath, snd2, eqTy, callR, makeR, mkT, iosOf, evens, odds, flatS, Res.noX, rangeD, Fl.whl, phi, List.lookup, putD, PySem.sizeLine_eq, hk, hl, hl2, hl3, Function.comp_def]
    simp [runF, evSs, evS, evI, evA, evL, evAs, evC, evCs, evCor, evCand, evAnd, evOr, evKs, ev, killE, backE, opR, opX, partOk, partD, argO, plainA, fnSh, isa1, mtTy, muTy, pathO, setPath, snd2, eqTy, callR, makeR, mkT, iosOf, evens, odds, flatS, Res.noX, rangeD, Fl.whl, phi, List.lookup, putD, PySem.sizeLine_eq, forL, e1, e2, shal_dicO]
  · refine (runD_eq (by rfl) (by rfl)).trans ?_
    rw [bb_l_lists_right]
    simp [runF, evSs, evS, evI, evA, evL, evAs, evC, evCs, evCor, evCand, evAnd, evOr, evKs, ev, killE, backE, opR, opX, partOk, partD, argO, plainA, fnSh, isa1, mtTy, muTy, pathO, setPath, snd2, eqTy, callR, makeR, mkT, iosOf, evens, odds, flatS, Res.noX, rangeD, Fl.whl, phi, List.lookup, putD, PySem.sizeLine_eq] at e1 e2
    simp [runF, evSs, evS, evI, evA, evL, evAs, evC, evCs, evCor, evCand, evAnd, evOr, evKs, ev, killE, backE, opR, opX, partOk, partD, argO, plainA, fnSh, isa1, mtTy, muTy, pathO, setPath, snd2, eqTy, callR, makeR, mkT, iosOf, evens, odds, flatS, Res.noX, rangeD, Fl.whl, phi, List.lookup, putD, PySem.sizeLine_eq, hk, hl, hl2, hl3, Function.comp_def]
    simp [runF, evSs, evS, evI, evA, evL, evAs, evC, evCs, evCor, evCand, evAnd, evOr, evKs, ev, killE, backE, opR, opX, partOk, partD, argO, plainA, fnSh, isa1, mtTy, muTy, pathO, setPath, snd2, eqTy, callR, makeR, mkT, iosOf, evens, odds, flatS, Res.noX, rangeD, Fl.whl, phi, List.lookup, putD, PySem.sizeLine_eq, forL, e1, e2]
end PV.K1
namespace PV.K1
open PySem L2 K01
noncomputable abbrev ΦV : Phi := phi [(7, r_Tree_shape), (8, r_Tree_walk), (9, r_Tree_names), (10, r_Tree__len_), (11, r_Tree__contains_), (15, r_Tree_parent), (28, r_l_shape)]
theorem in_odd {f : F} {x : D} (h1 : D.okd 150 x = true) (h2 : ∀ s, D.eqd (.str s) x = false) : cmpD.inD x f.nmD = some false := by
  show (if D.okd 150 x && D.okdL 150 (f.names.map .str) then some ((f.names.map .str).any fun y => D.eqd y x) else inDic x (f.names.map .str)) = some false
  rw [h1, okd_strs]
  have : ((f.names.map D.str).any fun y => D.eqd y x) = false := by
    rw [List.any_eq_false]
    intro y hy
    obtain ⟨s, _, rfl⟩ := List.mem_map.mp hy
    simp [h2]
  rw [this]
  rfl
theorem in_dic {f : F} {ks vs : List D} : cmpD.inD (.dic ks vs) f.nmD = some false := by
  show (if D.okd 150 (.dic ks vs) && D.okdL 150 (f.names.map .str) then some ((f.names.map .str).any fun y => D.eqd y (.dic ks vs)) else inDic (.dic ks vs) (f.names.map .str)) = some false
  rw [show D.okd 150 (.dic ks vs) = false by rw [D.okd]]
  have : (f.names.map D.str).all isStrD = true := by
    rw [List.all_eq_true]
    intro y hy
    obtain ⟨s, _, rfl⟩ := List.mem_map.mp hy
    rfl
  show (if (f.names.map D.str).all isStrD then some false else none) = some false
  rw [if_pos this]
theorem in_str {f : F} (hf : FOk f) {s : Str} (h : ¬ NameOk s) : cmpD.inD (.str s) f.nmD = some false := by
  rw [in_names]
  have : s ∉ f.names := fun z => h (hf.ok s z)
  simp [this]
abbrev tail8 : Str := "aaaaaaaa"
def oddL (f : F) : List D := [.str "Zz", .str "", .non, .int 3, .bl true, .lst [.str "a"], .tup [.str "a", .int 0], .dic [.str "a"] [.int 1], f.shD] ++ f.names.map fun x => .str (x ++ tail8)
theorem odd_in {f : F} (hf : FOk f) : ∀ x ∈ oddL f, cmpD.inD x f.nmD = some false := by
  intro x hx
  have b1 : nameB "Zz" = false := by decide +kernel
  have b2 : nameB "" = false := by decide +kernel
  have nb : ∀ {s : Str}, nameB s = false → ¬ NameOk s := fun {s} h n => by
    have : nameB s = true := by
      unfold nameB
      simp only [Bool.and_eq_true, decide_eq_true_eq, List.all_eq_true]
      exact ⟨n.lo, n.hi, n.ab⟩
    rw [h] at this
    cases this
  unfold oddL at hx
  rcases List.mem_append.mp hx with q | q
  · simp only [List.mem_cons, List.not_mem_nil, or_false] at q
    rcases q with rfl | rfl | rfl | rfl | rfl | rfl | rfl | rfl | rfl
    · exact in_str hf (nb b1)
    · exact in_str hf (nb b2)
    · exact in_odd okd_non fun s => by simp [D.eqd]
    · exact in_odd okd_int fun s => by simp [D.eqd]
    · exact in_odd (by simp [D.okd]) fun s => by simp [D.eqd]
    · exact in_odd (by simp [D.okd, D.okdL]) fun s => by simp [D.eqd]
    · exact in_odd (by simp [D.okd, D.okdL]) fun s => by simp [D.eqd]
    · exact in_dic
    · exact in_odd (okd_sh (by have := hf.sz; omega)) fun s => by simp [D.eqd]
  · obtain ⟨s, hs, rfl⟩ := List.mem_map.mp q
    refine in_str hf fun n => ?_
    have h1 := (hf.ok s hs).lo
    have h2 := n.hi
    have h3 : (s ++ tail8).length = s.length + 8 := by
      show (s.cps ++ tail8.cps).size = s.cps.size + 8
      rw [Array.size_append]
      rfl
    omega
theorem okd_ent {n : Nat} {e : Ent} : D.okd (n + 1) (entD e) = true := by
  unfold entD
  simp [D.okd, D.okdL, okd_str, okd_int]
theorem okd_wk {n : Nat} {f : F} : D.okd (n + 2) f.wkD = true := by
  rw [D.okd]
  refine okdL_all fun x hx => ?_
  obtain ⟨e, _, rfl⟩ := List.mem_map.mp hx
  exact okd_ent
abbrev F.tri (f : F) : D := .tup [f.shD, f.wkD, f.nmD]
theorem okd_tri {f : F} (hz : f.size ≤ 12) : D.okd 150 f.tri = true := by
  rw [D.okd, D.okdL, okd_sh (by omega), D.okdL, okd_wk, D.okdL, okd_strt, D.okdL]
  rfl
theorem tri_ne {f : F} (hz : f.size ≤ 12) : cmpD .ne f.tri f.tri = some false := by
  rw [q_ne]
  unfold okS
  rw [okd_tri hz, eqd_refl 150 _ (okd_tri hz)]
  rfl
theorem no_false {α : Type} {xs : List α} : cmpD .isin (.bl false) (.lst (xs.map fun _ => .bl true)) = some false := by
  rw [q_in, q_inl]
  have h : D.okdL 150 (xs.map fun _ => D.bl true) = true := okdL_all fun x hx => by
    obtain ⟨_, _, rfl⟩ := List.mem_map.mp hx
    simp [D.okd]
  rw [h]
  simp [D.okd, D.eqd]
theorem no_true {α : Type} {xs : List α} : cmpD .notin (.bl true) (.lst (xs.map fun _ => .bl false)) = some true := by
  rw [q_notin, q_inl]
  have h : D.okdL 150 (xs.map fun _ => D.bl false) = true := okdL_all fun x hx => by
    obtain ⟨_, _, rfl⟩ := List.mem_map.mp hx
    simp [D.okd]
  rw [h]
  simp [D.okd, D.eqd]
theorem v_in {f : F} (hf : FOk f) {a h : O} {w2 : Option O} : compL (fun x ρ => bnd (asgT (.nm 6) x ρ) fun ρ => (evCs ΦV [] ρ).bind fun b ρ => tst b ((ev ΦV ce_l_values_right_1 ρ).bind fun o ρ => .ok (some o) (killE [6] ρ)) (.ok none (killE [6] ρ))) (f.names.map .str) [some (f.tr a), some (walkO f.walk), some h, none, w2, none, none, none] = .ok (f.names.map fun _ => .d (.bl true)) [some (f.tr a), some (walkO f.walk), some h, none, w2, none, none, none] := by
  refine comp_map fun x hx => ?_
  have e : cmpD.inD (.str x) f.nmD = some true := by rw [in_names]; simp [hx]
  simp [runF, evSs, evS, evI, evA, evL, evAs, evC, evCs, evCor, evCand, evAnd, evOr, evKs, ev, killE, backE, opR, opX, partOk, partD, argO, plainA, fnSh, isa1, mtTy, muTy, pathO, setPath, snd2, eqTy, callR, makeR, mkT, iosOf, evens, odds, flatS, Res.noX, rangeD, Fl.whl, phi, List.lookup, putD, PySem.sizeLine_eq, ce_l_values_right_1]
  simp [runF, evSs, evS, evI, evA, evL, evAs, evC, evCs, evCor, evCand, evAnd, evOr, evKs, ev, killE, backE, opR, opX, partOk, partD, argO, plainA, fnSh, isa1, mtTy, muTy, pathO, setPath, snd2, eqTy, callR, makeR, mkT, iosOf, evens, odds, flatS, Res.noX, rangeD, Fl.whl, phi, List.lookup, putD, PySem.sizeLine_eq, t_in e]
theorem v_par {f : F} {a h : O} (ha : a.frz = f.dicD) (hh : h = f.dicO ∨ h = .d f.dicD) {w2 : Option O} : ∃ a' : O, a'.frz = f.dicD ∧ compL (fun x ρ => bnd (asgT (.nm 6) x ρ) fun ρ => (evCs ΦV [] ρ).bind fun b ρ => tst b ((ev ΦV ce_l_values_right_2 ρ).bind fun o ρ => .ok (some o) (killE [6] ρ)) (.ok none (killE [6] ρ))) (f.names.map .str) [some (f.tr a), some (walkO f.walk), some h, none, w2, none, none, none] = .ok (f.names.map fun _ => .d (.bl true)) [some (f.tr a'), some (walkO f.walk), some h, none, w2, none, none, none] := by
  obtain ⟨ρ', ⟨a', ha', rfl⟩, e⟩ := comp_filI (I := TI f [some (walkO f.walk), some h, none, w2, none, none, none]) (f := fun x ρ => bnd (asgT (.nm 6) x ρ) fun ρ => (evCs ΦV [] ρ).bind fun b ρ => tst b ((ev ΦV ce_l_values_right_2 ρ).bind fun o ρ => .ok (some o) (killE [6] ρ)) (.ok none (killE [6] ρ))) (a := D.str) (p := fun _ => true) (g := fun _ => .d (.bl true)) (xs := f.names) (fun y hy ρ ⟨b, hb, e⟩ => by
      subst e
      refine ⟨_, ⟨.d f.dicD, p_frz_d, rfl⟩, ?_⟩
      have hr : D.eqd (f.par y) (f.par y) = true := eqd_refl 150 _ (okd_par hy)
      rcases hh with rfl | rfl
      · simp (decide := true) [runF, evSs, evS, evI, evA, evL, evAs, evC, evCs, evCor, evCand, evAnd, evOr, evKs, ev, killE, backE, opR, opX, partOk, partD, argO, plainA, fnSh, isa1, mtTy, muTy, pathO, setPath, snd2, eqTy, callR, makeR, mkT, iosOf, evens, odds, flatS, Res.noX, rangeD, Fl.whl, phi, List.lookup, putD, PySem.sizeLine_eq, ce_l_values_right_2]
        simp [runF, evSs, evS, evI, evA, evL, evAs, evC, evCs, evCor, evCand, evAnd, evOr, evKs, ev, killE, backE, opR, opX, partOk, partD, argO, plainA, fnSh, isa1, mtTy, muTy, pathO, setPath, snd2, eqTy, callR, makeR, mkT, iosOf, evens, odds, flatS, Res.noX, rangeD, Fl.whl, phi, List.lookup, putD, PySem.sizeLine_eq, t_parent hb hy, kind_strs, (F.par_at hy).1, ix_par hy, okS, okd_par hy, hr, Function.comp_def]
      · simp (decide := true) [runF, evSs, evS, evI, evA, evL, evAs, evC, evCs, evCor, evCand, evAnd, evOr, evKs, ev, killE, backE, opR, opX, partOk, partD, argO, plainA, fnSh, isa1, mtTy, muTy, pathO, setPath, snd2, eqTy, callR, makeR, mkT, iosOf, evens, odds, flatS, Res.noX, rangeD, Fl.whl, phi, List.lookup, putD, PySem.sizeLine_eq, ce_l_values_right_2]
        simp [runF, evSs, evS, evI, evA, evL, evAs, evC, evCs, evCor, evCand, evAnd, evOr, evKs, ev, killE, backE, opR, opX, partOk, partD, argO, plainA, fnSh, isa1, mtTy, muTy, pathO, setPath, snd2, eqTy, callR, makeR, mkT, iosOf, evens, odds, flatS, Res.noX, rangeD, Fl.whl, phi, List.lookup, putD, PySem.sizeLine_eq, t_parent hb hy, kind_strs, (F.par_at hy).1, ix_par hy, okS, okd_par hy, hr, Function.comp_def]) [some (f.tr a), some (walkO f.walk), some h, none, w2, none, none, none] ⟨a, ha, rfl⟩
  exact ⟨a', ha', by rw [e, List.filter_eq_self.mpr (by simp)]⟩
end PV.K1
namespace PV.K1
open PySem L2 K01
theorem v_tail {f : F} (hf : FOk f) {a h : O} {w2 od : Option O} : compL (fun x ρ => bnd (asgT (.nm 6) x ρ) fun ρ => (evCs ΦV [] ρ).bind fun b ρ => tst b ((ev ΦV ce_l_values_right_3 ρ).bind fun o ρ => .ok (some o) (killE [6] ρ)) (.ok none (killE [6] ρ))) (f.names.map .str) [some (f.tr a), some (walkO f.walk), some h, none, w2, od, none, none] = .ok (f.names.map fun x => strO (x ++ tail8)) [some (f.tr a), some (walkO f.walk), some h, none, w2, od, none, none] := by
  refine comp_map fun x hx => ?_
  have h1 := (hf.ok x hx).hi
  have h2 : tail8.length = 8 := by decide +kernel
  have h3 : x.length + 8 ≤ 16777216 := by omega
  simp [runF, evSs, evS, evI, evA, evL, evAs, evC, evCs, evCor, evCand, evAnd, evOr, evKs, ev, killE, backE, opR, opX, partOk, partD, argO, plainA, fnSh, isa1, mtTy, muTy, pathO, setPath, snd2, eqTy, callR, makeR, mkT, iosOf, evens, odds, flatS, Res.noX, rangeD, Fl.whl, phi, List.lookup, putD, PySem.sizeLine_eq, ce_l_values_right_3]
  simp [runF, evSs, evS, evI, evA, evL, evAs, evC, evCs, evCor, evCand, evAnd, evOr, evKs, ev, killE, backE, opR, opX, partOk, partD, argO, plainA, fnSh, isa1, mtTy, muTy, pathO, setPath, snd2, eqTy, callR, makeR, mkT, iosOf, evens, odds, flatS, Res.noX, rangeD, Fl.whl, phi, List.lookup, putD, PySem.sizeLine_eq, h2, h3]
theorem v_odd {f : F} (hf : FOk f) {a h : O} {nm w2 : Option O} : compL (fun x ρ => bnd (asgT (.nm 7) x ρ) fun ρ => (evCs ΦV [] ρ).bind fun b ρ => tst b ((ev ΦV ce_l_values_right_4 ρ).bind fun o ρ => .ok (some o) (killE [7] ρ)) (.ok none (killE [7] ρ))) (oddL f) [some (f.tr a), some (walkO f.walk), some h, nm, w2, none, none, none] = .ok ((oddL f).map fun _ => .d (.bl false)) [some (f.tr a), some (walkO f.walk), some h, nm, w2, none, none, none] := by
  have := comp_map (f := fun x ρ => bnd (asgT (.nm 7) x ρ) fun ρ => (evCs ΦV [] ρ).bind fun b ρ => tst b ((ev ΦV ce_l_values_right_4 ρ).bind fun o ρ => .ok (some o) (killE [7] ρ)) (.ok none (killE [7] ρ))) (a := id) (g := fun _ => .d (.bl false)) (ρ := [some (f.tr a), some (walkO f.walk), some h, nm, w2, none, none, none]) (xs := oddL f) fun x hx => ?_
  · rwa [List.map_id] at this
  · have e := odd_in hf x hx
    simp [runF, evSs, evS, evI, evA, evL, evAs, evC, evCs, evCor, evCand, evAnd, evOr, evKs, ev, killE, backE, opR, opX, partOk, partD, argO, plainA, fnSh, isa1, mtTy, muTy, pathO, setPath, snd2, eqTy, callR, makeR, mkT, iosOf, evens, odds, flatS, Res.noX, rangeD, Fl.whl, phi, List.lookup, putD, PySem.sizeLine_eq, ce_l_values_right_4]
    simp [runF, evSs, evS, evI, evA, evL, evAs, evC, evCs, evCor, evCand, evAnd, evOr, evKs, ev, killE, backE, opR, opX, partOk, partD, argO, plainA, fnSh, isa1, mtTy, muTy, pathO, setPath, snd2, eqTy, callR, makeR, mkT, iosOf, evens, odds, flatS, Res.noX, rangeD, Fl.whl, phi, List.lookup, putD, PySem.sizeLine_eq, t_in e]
theorem h13 : (13 : Int) ≤ 2 ^ 63 := by decide
theorem h63b {m : Int} (h0 : 0 ≤ m) (h : m ≤ 12) : lenO (.d (.int m)) = some (.d (.int m)) := by
  rw [q_len]
  exact if_pos ⟨h0, Int.lt_of_lt_of_le (by omega : m < 13) h13⟩
theorem dct_a : PV.dicO [O.d (D.str "a")] [O.d (D.int 1)] = some (.dic [.str "a"] [.d (.int 1)]) := by
  simp [PV.dicO, keysOf, keyOf]
theorem step_nx {Φ : Phi} {s : SS} {ss : List SS} {ρ ρ' : Env} {r : Res Fl} (h : evS Φ s ρ = .ok .nx ρ') (h2 : evSs Φ ss ρ' = r) : evSs Φ (s :: ss) ρ = r := by
  rw [evSs, h]
  exact h2
theorem step_rt {Φ : Phi} {s : SS} {ρ ρ' : Env} {o : O} (h : evS Φ s ρ = .ok (.rt o) ρ') : evSs Φ [s] ρ = .ok (.rt o) ρ' := by
  rw [evSs, h]
  rfl
/-- the names' table, owned or not -/
def Tb (f : F) (h : O) : Prop := h = f.dicO ∨ h = .d f.dicD
abbrev nmO (f : F) : O := .lst (f.names.map strO)
theorem vr1 {f : F} (hz : f.size ≤ 12) {a h : O} (hh : Tb f h) : evS ΦV sb_l_values_right_1 [some (f.tr a), some (walkO f.walk), some h, none, none, none, none, none] = .ok .nx [some (f.tr a), some (walkO f.walk), some h, some (nmO f), some (.d f.shD), none, none, none] := by
  have e0 := shape (f := f) (by omega)
  have hk := all_keys f.names
  rcases hh with rfl | rfl
  · simp [runF, evSs, evS, evI, evA, evL, evAs, evC, evCs, evCor, evCand, evAnd, evOr, evKs, ev, killE, backE, opR, opX, partOk, partD, argO, plainA, fnSh, isa1, mtTy, muTy, pathO, setPath, snd2, eqTy, callR, makeR, mkT, iosOf, evens, odds, flatS, Res.noX, rangeD, Fl.whl, phi, List.lookup, putD, PySem.sizeLine_eq, sb_l_values_right_1, hk, Function.comp_def]
    simp [runF, evSs, evS, evI, evA, evL, evAs, evC, evCs, evCor, evCand, evAnd, evOr, evKs, ev, killE, backE, opR, opX, partOk, partD, argO, plainA, fnSh, isa1, mtTy, muTy, pathO, setPath, snd2, eqTy, callR, makeR, mkT, iosOf, evens, odds, flatS, Res.noX, rangeD, Fl.whl, phi, List.lookup, putD, PySem.sizeLine_eq, e0, shal_dicO]
  · simp [runF, evSs, evS, evI, evA, evL, evAs, evC, evCs, evCor, evCand, evAnd, evOr, evKs, ev, killE, backE, opR, opX, partOk, partD, argO, plainA, fnSh, isa1, mtTy, muTy, pathO, setPath, snd2, eqTy, callR, makeR, mkT, iosOf, evens, odds, flatS, Res.noX, rangeD, Fl.whl, phi, List.lookup, putD, PySem.sizeLine_eq, sb_l_values_right_1, hk, Function.comp_def]
    simp [runF, evSs, evS, evI, evA, evL, evAs, evC, evCs, evCor, evCand, evAnd, evOr, evKs, ev, killE, backE, opR, opX, partOk, partD, argO, plainA, fnSh, isa1, mtTy, muTy, pathO, setPath, snd2, eqTy, callR, makeR, mkT, iosOf, evens, odds, flatS, Res.noX, rangeD, Fl.whl, phi, List.lookup, putD, PySem.sizeLine_eq, e0]
theorem vr2 {f : F} (hz : f.size ≤ 12) {a h : O} : evS ΦV sb_l_values_right_2 [some (f.tr a), some (walkO f.walk), some h, some (nmO f), some (.d f.shD), none, none, none] = .ok .nx [some (f.tr a), some (walkO f.walk), some h, some (nmO f), some (.d f.shD), none, none, none] := by
  have ht := tri_ne hz
  simp [runF, evSs, evS, evI, evA, evL, evAs, evC, evCs, evCor, evCand, evAnd, evOr, evKs, ev, killE, backE, opR, opX, partOk, partD, argO, plainA, fnSh, isa1, mtTy, muTy, pathO, setPath, snd2, eqTy, callR, makeR, mkT, iosOf, evens, odds, flatS, Res.noX, rangeD, Fl.whl, phi, List.lookup, putD, PySem.sizeLine_eq, sb_l_values_right_2]
  simp [runF, evSs, evS, evI, evA, evL, evAs, evC, evCs, evCor, evCand, evAnd, evOr, evKs, ev, killE, backE, opR, opX, partOk, partD, argO, plainA, fnSh, isa1, mtTy, muTy, pathO, setPath, snd2, eqTy, callR, makeR, mkT, iosOf, evens, odds, flatS, Res.noX, rangeD, Fl.whl, phi, List.lookup, putD, PySem.sizeLine_eq, t_shape, t_walk, t_names, frz_w, shal_w, ht, -q_ne, Function.comp_def]
theorem vr3 {f : F} (hz : f.size ≤ 12) {a h w2 : O} : evS ΦV sb_l_values_right_3 [some (f.tr a), some (walkO f.walk), some h, some (nmO f), some w2, none, none, none] = .ok .nx [some (f.tr a), some (walkO f.walk), some h, some (nmO f), some w2, none, none, none] := by
  obtain ⟨m, hm⟩ : ∃ m : Int, (f.names.length : Int) = m := ⟨_, rfl⟩
  have h0 : 0 ≤ m ∧ m ≤ 12 := by
    rw [← hm, F.names_len]
    omega
  have e : r_Tree__len_ [f.tr a] = .ok (.d (.int m)) [f.tr a] := by
    rw [← hm]
    exact t_len
  have h63 := h63b h0.1 h0.2
  have hi : cmpD .ne (.int m) (.int m) = some false := by
    rw [q_ne]
    simp [q_eqd_ii]
  simp [runF, evSs, evS, evI, evA, evL, evAs, evC, evCs, evCor, evCand, evAnd, evOr, evKs, ev, killE, backE, opR, opX, partOk, partD, argO, plainA, fnSh, isa1, mtTy, muTy, pathO, setPath, snd2, eqTy, callR, makeR, mkT, iosOf, evens, odds, flatS, Res.noX, rangeD, Fl.whl, phi, List.lookup, putD, PySem.sizeLine_eq, sb_l_values_right_3]
  simp [runF, evSs, evS, evI, evA, evL, evAs, evC, evCs, evCor, evCand, evAnd, evOr, evKs, ev, killE, backE, opR, opX, partOk, partD, argO, plainA, fnSh, isa1, mtTy, muTy, pathO, setPath, snd2, eqTy, callR, makeR, mkT, iosOf, evens, odds, flatS, Res.noX, rangeD, Fl.whl, phi, List.lookup, putD, PySem.sizeLine_eq, e, hi, h63, hm, -q_ne, -q_len, Function.comp_def]
theorem vr4 {f : F} (hf : FOk f) {a h w2 : O} : evS ΦV sb_l_values_right_4 [some (f.tr a), some (walkO f.walk), some h, some (nmO f), some w2, none, none, none] = .ok .nx [some (f.tr a), some (walkO f.walk), some h, some (nmO f), some w2, none, none, none] := by
  have e1 := v_in hf (a := a) (h := h) (w2 := some w2)
  simp [runF, evSs, evS, evI, evA, evL, evAs, evC, evCs, evCor, evCand, evAnd, evOr, evKs, ev, killE, backE, opR, opX, partOk, partD, argO, plainA, fnSh, isa1, mtTy, muTy, pathO, setPath, snd2, eqTy, callR, makeR, mkT, iosOf, evens, odds, flatS, Res.noX, rangeD, Fl.whl, phi, List.lookup, putD, PySem.sizeLine_eq] at e1
  simp [runF, evSs, evS, evI, evA, evL, evAs, evC, evCs, evCor, evCand, evAnd, evOr, evKs, ev, killE, backE, opR, opX, partOk, partD, argO, plainA, fnSh, isa1, mtTy, muTy, pathO, setPath, snd2, eqTy, callR, makeR, mkT, iosOf, evens, odds, flatS, Res.noX, rangeD, Fl.whl, phi, List.lookup, putD, PySem.sizeLine_eq, sb_l_values_right_4, Function.comp_def]
  simp [runF, evSs, evS, evI, evA, evL, evAs, evC, evCs, evCor, evCand, evAnd, evOr, evKs, ev, killE, backE, opR, opX, partOk, partD, argO, plainA, fnSh, isa1, mtTy, muTy, pathO, setPath, snd2, eqTy, callR, makeR, mkT, iosOf, evens, odds, flatS, Res.noX, rangeD, Fl.whl, phi, List.lookup, putD, PySem.sizeLine_eq, e1, no_false, -q_in, Function.comp_def]
theorem vr5 {f : F} {a h w2 : O} (ha : a.frz = f.dicD) (hh : Tb f h) : ∃ a' : O, a'.frz = f.dicD ∧ evS ΦV sb_l_values_right_5 [some (f.tr a), some (walkO f.walk), some h, some (nmO f), some w2, none, none, none] = .ok .nx [some (f.tr a'), some (walkO f.walk), some h, some (nmO f), some w2, none, none, none] := by
  obtain ⟨a', ha', e1⟩ := v_par ha hh (w2 := some w2)
  refine ⟨a', ha', ?_⟩
  simp [runF, evSs, evS, evI, evA, evL, evAs, evC, evCs, evCor, evCand, evAnd, evOr, evKs, ev, killE, backE, opR, opX, partOk, partD, argO, plainA, fnSh, isa1, mtTy, muTy, pathO, setPath, snd2, eqTy, callR, makeR, mkT, iosOf, evens, odds, flatS, Res.noX, rangeD, Fl.whl, phi, List.lookup, putD, PySem.sizeLine_eq] at e1
  simp [runF, evSs, evS, evI, evA, evL, evAs, evC, evCs, evCor, evCand, evAnd, evOr, evKs, ev, killE, backE, opR, opX, partOk, partD, argO, plainA, fnSh, isa1, mtTy, muTy, pathO, setPath, snd2, eqTy, callR, makeR, mkT, iosOf, evens, odds, flatS, Res.noX, rangeD, Fl.whl, phi, List.lookup, putD, PySem.sizeLine_eq, sb_l_values_right_5, Function.comp_def]
  simp [runF, evSs, evS, evI, evA, evL, evAs, evC, evCs, evCor, evCand, evAnd, evOr, evKs, ev, killE, backE, opR, opX, partOk, partD, argO, plainA, fnSh, isa1, mtTy, muTy, pathO, setPath, snd2, eqTy, callR, makeR, mkT, iosOf, evens, odds, flatS, Res.noX, rangeD, Fl.whl, phi, List.lookup, putD, PySem.sizeLine_eq, e1, no_false, -q_in, Function.comp_def]
theorem vr6 {f : F} (hf : FOk f) {a h : O} : evS ΦV sb_l_values_right_6 [some (f.tr a), some (walkO f.walk), some h, some (nmO f), some (.d f.shD), none, none, none] = .ok .nx [some (f.tr a), some (walkO f.walk), some h, some (nmO f), some (.d f.shD), some (.lst ((oddL f).map .d)), none, none] := by
  have e1 := v_tail hf (a := a) (h := h) (w2 := some (.d f.shD)) (od := none)
  have hz := hf.sz
  have hl : f.names.length = f.size := F.names_len f
  have hol : 9 + f.names.length ≤ 16777216 := by omega
  have hol2 : f.names.length + 9 ≤ 16777216 := by omega
  have hol3 : f.names.length ≤ 16777207 := by omega
  simp [runF, evSs, evS, evI, evA, evL, evAs, evC, evCs, evCor, evCand, evAnd, evOr, evKs, ev, killE, backE, opR, opX, partOk, partD, argO, plainA, fnSh, isa1, mtTy, muTy, pathO, setPath, snd2, eqTy, callR, makeR, mkT, iosOf, evens, odds, flatS, Res.noX, rangeD, Fl.whl, phi, List.lookup, putD, PySem.sizeLine_eq] at e1
  simp [runF, evSs, evS, evI, evA, evL, evAs, evC, evCs, evCor, evCand, evAnd, evOr, evKs, ev, killE, backE, opR, opX, partOk, partD, argO, plainA, fnSh, isa1, mtTy, muTy, pathO, setPath, snd2, eqTy, callR, makeR, mkT, iosOf, evens, odds, flatS, Res.noX, rangeD, Fl.whl, phi, List.lookup, putD, PySem.sizeLine_eq, sb_l_values_right_6, dct_a, Function.comp_def]
  simp [runF, evSs, evS, evI, evA, evL, evAs, evC, evCs, evCor, evCand, evAnd, evOr, evKs, ev, killE, backE, opR, opX, partOk, partD, argO, plainA, fnSh, isa1, mtTy, muTy, pathO, setPath, snd2, eqTy, callR, makeR, mkT, iosOf, evens, odds, flatS, Res.noX, rangeD, Fl.whl, phi, List.lookup, putD, PySem.sizeLine_eq, e1, hol, hol2, hol3, Function.comp_def, oddL]
theorem vr7 {f : F} (hf : FOk f) {a h w2 : O} : evS ΦV sb_l_values_right_7 [some (f.tr a), some (walkO f.walk), some h, some (nmO f), some w2, some (.lst ((oddL f).map .d)), none, none] = .ok (.rt (.d (.bl true))) [some (f.tr a), some (walkO f.walk), some h, some (nmO f), some w2, some (.lst ((oddL f).map .d)), none, none] := by
  have e1 := v_odd hf (a := a) (h := h) (nm := some (nmO f)) (w2 := some w2)
  simp [runF, evSs, evS, evI, evA, evL, evAs, evC, evCs, evCor, evCand, evAnd, evOr, evKs, ev, killE, backE, opR, opX, partOk, partD, argO, plainA, fnSh, isa1, mtTy, muTy, pathO, setPath, snd2, eqTy, callR, makeR, mkT, iosOf, evens, odds, flatS, Res.noX, rangeD, Fl.whl, phi, List.lookup, putD, PySem.sizeLine_eq] at e1
  simp [runF, evSs, evS, evI, evA, evL, evAs, evC, evCs, evCor, evCand, evAnd, evOr, evKs, ev, killE, backE, opR, opX, partOk, partD, argO, plainA, fnSh, isa1, mtTy, muTy, pathO, setPath, snd2, eqTy, callR, makeR, mkT, iosOf, evens, odds, flatS, Res.noX, rangeD, Fl.whl, phi, List.lookup, putD, PySem.sizeLine_eq, sb_l_values_right_7, Function.comp_def]
  simp [runF, evSs, evS, evI, evA, evL, evAs, evC, evCs, evCor, evCand, evAnd, evOr, evKs, ev, killE, backE, opR, opX, partOk, partD, argO, plainA, fnSh, isa1, mtTy, muTy, pathO, setPath, snd2, eqTy, callR, makeR, mkT, iosOf, evens, odds, flatS, Res.noX, rangeD, Fl.whl, phi, List.lookup, putD, PySem.sizeLine_eq, e1, no_true, -q_notin, Function.comp_def]
theorem values_right {f : F} (hf : FOk f) {a h : O} (ha : a.frz = f.dicD) (hh : Tb f h) : ∃ a' : O, a'.frz = f.dicD ∧ r_l_values_right [f.tr a, walkO f.walk, h] = .ok (.d (.bl true)) [f.tr a', walkO f.walk, h] := by
  obtain ⟨a', ha', e5⟩ := vr5 (w2 := .d f.shD) ha hh
  refine ⟨a', ha', ?_⟩
  have hr : evSs ΦV b_l_values_right [some (f.tr a), some (walkO f.walk), some h, none, none, none, none, none] = .ok (.rt (.d (.bl true))) [some (f.tr a'), some (walkO f.walk), some h, some (nmO f), some (.d f.shD), some (.lst ((oddL f).map .d)), none, none] := by
    rw [bs_l_values_right]
    exact step_nx (vr1 hf.sz hh) (step_nx (vr2 hf.sz) (step_nx (vr3 hf.sz) (step_nx (vr4 hf) (step_nx e5 (step_nx (vr6 hf) (step_rt (vr7 hf)))))))
  have hg : okArgs [0, 1, 2] 0 [f.tr a, walkO f.walk, h] = true := by rcases hh with rfl | rfl <;> rfl
  refine (runD_eq (by rfl) hg).trans ?_
  show (evSs ΦV b_l_values_right [some (f.tr a), some (walkO f.walk), some h, none, none, none, none, none]).done [f.tr a, walkO f.walk, h] = _
  rw [hr]
  rcases hh with rfl | rfl <;> simp [iosOf]
end PV.K1
namespace PV.K1
open PySem L2 K01
noncomputable abbrev ΦE : Phi := phi [(5, r_Tree__init_), (8, r_Tree_walk), (9, r_Tree_names), (13, r_Tree__eq_)]
def oddE (f : F) : List D := [f.shD, f.wkD, f.nmD, .non, .int 0, .str "a", .lst (f.names.map .str)]
theorem oddE_is {f : F} : ∀ x ∈ oddE f, isaD [20] [.cls 20] [x] = some (.d (.bl false)) := by
  intro x hx
  unfold oddE at hx
  simp only [List.mem_cons, List.not_mem_nil, or_false] at hx
  rcases hx with rfl | rfl | rfl | rfl | rfl | rfl | rfl <;> rfl
theorem e_comp {f : F} {a : O} {g1 g2 : O} : compL (fun x ρ => bnd (asgT (.nm 3) x ρ) fun ρ => (evCs ΦE [] ρ).bind fun b ρ => tst b ((ev ΦE ce_l_equal_right_1 ρ).bind fun o ρ => .ok (some o) (killE [3] ρ)) (.ok none (killE [3] ρ))) (oddE f) [some (f.tr a), some g1, some g2, none] = .ok ((oddE f).map fun _ => .d (.bl false)) [some (f.tr a), some g1, some g2, none] := by
  have := comp_map (f := fun x ρ => bnd (asgT (.nm 3) x ρ) fun ρ => (evCs ΦE [] ρ).bind fun b ρ => tst b ((ev ΦE ce_l_equal_right_1 ρ).bind fun o ρ => .ok (some o) (killE [3] ρ)) (.ok none (killE [3] ρ))) (a := id) (g := fun _ => .d (.bl false)) (ρ := [some (f.tr a), some g1, some g2, none]) (xs := oddE f) fun x hx => ?_
  · rwa [List.map_id] at this
  · have e := t_eqD (f := f) (a := a) (oddE_is x hx)
    have et : eqTy 20 x = some () := by
      unfold oddE at hx
      simp only [List.mem_cons, List.not_mem_nil, or_false] at hx
      rcases hx with rfl | rfl | rfl | rfl | rfl | rfl | rfl <;> rfl
    simp [runF, evSs, evS, evI, evA, evL, evAs, evC, evCs, evCor, evCand, evAnd, evOr, evKs, ev, killE, backE, opR, opX, partOk, partD, argO, plainA, fnSh, isa1, mtTy, muTy, pathO, setPath, snd2, callR, makeR, mkT, iosOf, evens, odds, flatS, Res.noX, rangeD, Fl.whl, phi, List.lookup, putD, PySem.sizeLine_eq, ce_l_equal_right_1]
    simp [runF, evSs, evS, evI, evA, evL, evAs, evC, evCs, evCor, evCand, evAnd, evOr, evKs, ev, killE, backE, opR, opX, partOk, partD, argO, plainA, fnSh, isa1, mtTy, muTy, pathO, setPath, snd2, callR, makeR, mkT, iosOf, evens, odds, flatS, Res.noX, rangeD, Fl.whl, phi, List.lookup, putD, PySem.sizeLine_eq, e, et]
theorem equal_right {f g : F} (hf : FOk f) (hg : FOk g) {a : O} : r_l_equal_right [f.tr a, .d f.shD, .d g.shD] = .ok (.d (.bl true)) [f.tr a, .d f.shD, .d g.shD] := by
  have i1 := init hf
  have i2 := init hg
  have q1 := t_eq (a := a) (b := f.dicO) hf.sz hf.sz
  have q2 := t_eq (a := a) (b := g.dicO) hf.sz hg.sz
  have zf := hf.sz
  have zg := hg.sz
  have r1 : D.eqd f.shD f.shD = true := eqd_refl 150 _ (okd_sh (by omega))
  rw [r1] at q1
  have k1 : cmpD .eq (.tup f.shape) (.tup g.shape) = some (D.eqd (.tup f.shape) (.tup g.shape)) := by
    rw [q_eq]
    unfold okS
    rw [okd_sh (by omega), okd_sh (by omega)]
    rfl
  have k2 : ∀ b : Bool, cmpD .ne (.bl b) (.bl b) = some false := fun b => by cases b <;> simp [okS, D.okd, D.eqd]
  have e3 := e_comp (f := f) (a := a) (g1 := .d f.shD) (g2 := .d g.shD)
  have nt := no_true (xs := oddE f)
  refine (runD_eq (by rfl) (by rfl)).trans ?_
  rw [bb_l_equal_right]
  simp [runF, evSs, evS, evI, evA, evL, evAs, evC, evCs, evCor, evCand, evAnd, evOr, evKs, ev, killE, backE, opR, opX, partOk, partD, argO, plainA, fnSh, isa1, mtTy, muTy, pathO, setPath, snd2, eqTy, callR, makeR, mkT, iosOf, evens, odds, flatS, Res.noX, rangeD, Fl.whl, phi, List.lookup, putD, PySem.sizeLine_eq] at e3
  simp only [oddE, List.map_cons, List.map_nil] at e3 nt
  simp [runF, evSs, evS, evI, evA, evL, evAs, evC, evCs, evCor, evCand, evAnd, evOr, evKs, ev, killE, backE, opR, opX, partOk, partD, argO, plainA, fnSh, isa1, mtTy, muTy, pathO, setPath, snd2, eqTy, callR, makeR, mkT, iosOf, evens, odds, flatS, Res.noX, rangeD, Fl.whl, phi, List.lookup, putD, PySem.sizeLine_eq, i1, i2]
  simp [runF, evSs, evS, evI, evA, evL, evAs, evC, evCs, evCor, evCand, evAnd, evOr, evKs, ev, killE, backE, opR, opX, partOk, partD, argO, plainA, fnSh, isa1, mtTy, muTy, pathO, setPath, snd2, eqTy, callR, makeR, mkT, iosOf, evens, odds, flatS, Res.noX, rangeD, Fl.whl, phi, List.lookup, putD, PySem.sizeLine_eq, q1]
  simp [runF, evSs, evS, evI, evA, evL, evAs, evC, evCs, evCor, evCand, evAnd, evOr, evKs, ev, killE, backE, opR, opX, partOk, partD, argO, plainA, fnSh, isa1, mtTy, muTy, pathO, setPath, snd2, eqTy, callR, makeR, mkT, iosOf, evens, odds, flatS, Res.noX, rangeD, Fl.whl, phi, List.lookup, putD, PySem.sizeLine_eq, i2]
  simp [runF, evSs, evS, evI, evA, evL, evAs, evC, evCs, evCor, evCand, evAnd, evOr, evKs, ev, killE, backE, opR, opX, partOk, partD, argO, plainA, fnSh, isa1, mtTy, muTy, pathO, setPath, snd2, eqTy, callR, makeR, mkT, iosOf, evens, odds, flatS, Res.noX, rangeD, Fl.whl, phi, List.lookup, putD, PySem.sizeLine_eq, q2, k1, k2, -q_eq, -q_ne]
  simp [runF, evSs, evS, evI, evA, evL, evAs, evC, evCs, evCor, evCand, evAnd, evOr, evKs, ev, killE, backE, opR, opX, partOk, partD, argO, plainA, fnSh, isa1, mtTy, muTy, pathO, setPath, snd2, eqTy, callR, makeR, mkT, iosOf, evens, odds, flatS, Res.noX, rangeD, Fl.whl, phi, List.lookup, putD, PySem.sizeLine_eq, t_walk, t_names, Function.comp_def]
  simp [runF, evSs, evS, evI, evA, evL, evAs, evC, evCs, evCor, evCand, evAnd, evOr, evKs, ev, killE, backE, opR, opX, partOk, partD, argO, plainA, fnSh, isa1, mtTy, muTy, pathO, setPath, snd2, eqTy, callR, makeR, mkT, iosOf, evens, odds, flatS, Res.noX, rangeD, Fl.whl, phi, List.lookup, putD, PySem.sizeLine_eq, e3, nt, -q_notin]
end PV.K1
namespace PV.K1
open PySem L2 K01
theorem begun2 (ns : List Int) : ∃ ls, r_l_begun [.lst (ns.map intO)] = .ok (stO ls ns 0 0) [.lst (ns.map intO)] := by
  refine ⟨(ns.filter fun x => decide (10 ^ 18 ≤ x)).map fun x => x - 10 ^ 18, ?_⟩
  refine (runD_eq (by rfl) (by rfl)).trans ?_
  rw [bb_l_begun]
  have e : ∀ o2, compL (fun x ρ => bnd (asgT (.nm 2) x ρ) fun ρ => (evCs (phi []) ci_l_begun_1 ρ).bind fun b ρ => tst b ((ev (phi []) ce_l_begun_1 ρ).bind fun o ρ => .ok (some o) (killE [2] ρ)) (.ok none (killE [2] ρ))) (ns.map .int) [none, o2, none] = .ok (((ns.filter fun x => decide (10 ^ 18 ≤ x)).map fun x => .d (.int (x - 10 ^ 18)))) [none, o2, none] := by
    intro o2
    rw [comp_filter (p := fun x => decide (10 ^ 18 ≤ x)) (g := fun x => .d (.int (x - 10 ^ 18)))]
    intro x
    simp [runF, evSs, evS, evI, evA, evL, evAs, evC, evCs, evCor, evCand, evAnd, evOr, evKs, ev, killE, backE, opR, opX, partOk, partD, argO, plainA, fnSh, isa1, mtTy, muTy, pathO, setPath, snd2, putFO, posF, fieldD, eqTy, callR, makeR, mkT, iosOf, evens, odds, flatS, Res.noX, rangeD, Fl.whl, phi, List.lookup, putD, PySem.sizeLine_eq, ce_l_begun_1, ci_l_begun_1]
    by_cases h : (10 ^ 18 : Int) ≤ x
    · have h' : (1000000000000000000 : Int) ≤ x := h
      simp [h', killE]
    · have h' : ¬ (1000000000000000000 : Int) ≤ x := h
      simp [h', killE]
  simp [runF, evSs, evS, evI, evA, evL, evAs, evC, evCs, evCor, evCand, evAnd, evOr, evKs, ev, killE, backE, opR, opX, partOk, partD, argO, plainA, fnSh, isa1, mtTy, muTy, pathO, setPath, snd2, putFO, posF, fieldD, eqTy, callR, makeR, mkT, iosOf, evens, odds, flatS, Res.noX, rangeD, Fl.whl, phi, List.lookup, putD, PySem.sizeLine_eq] at e
  simp [runF, evSs, evS, evI, evA, evL, evAs, evC, evCs, evCor, evCand, evAnd, evOr, evKs, ev, killE, backE, opR, opX, partOk, partD, argO, plainA, fnSh, isa1, mtTy, muTy, pathO, setPath, snd2, putFO, posF, fieldD, eqTy, callR, makeR, mkT, iosOf, evens, odds, flatS, Res.noX, rangeD, Fl.whl, phi, List.lookup, putD, PySem.sizeLine_eq, Function.comp_def]
  simp [runF, evSs, evS, evI, evA, evL, evAs, evC, evCs, evCor, evCand, evAnd, evOr, evKs, ev, killE, backE, opR, opX, partOk, partD, argO, plainA, fnSh, isa1, mtTy, muTy, pathO, setPath, snd2, putFO, posF, fieldD, eqTy, callR, makeR, mkT, iosOf, evens, odds, flatS, Res.noX, rangeD, Fl.whl, phi, List.lookup, putD, PySem.sizeLine_eq, e]
  simp (decide := true) [runF, evSs, evS, evI, evA, evL, evAs, evC, evCs, evCor, evCand, evAnd, evOr, evKs, ev, killE, backE, opR, opX, partOk, partD, argO, plainA, fnSh, isa1, mtTy, muTy, pathO, setPath, snd2, putFO, posF, fieldD, eqTy, callR, makeR, mkT, iosOf, evens, odds, flatS, Res.noX, rangeD, Fl.whl, phi, List.lookup, putD, PySem.sizeLine_eq, stO, keys_st, Function.comp_def, dicO]
  trace_state
end PV.K1
namespace PV.K1
open PySem L2 K01
noncomputable abbrev ΦA : Phi := phi [(5, r_Tree__init_), (8, r_Tree_walk), (13, r_Tree__eq_), (17, r_Tree_roots), (20, r_l_begun), (22, r_l_take), (25, r_l_names), (27, r_l_walk), (28, r_l_shape), (29, r_l_parents), (30, r_l_lists_right), (31, r_l_values_right), (32, r_l_equal_right)]
def sL (n : Nat) : SS := lb_law_1.getD n .pass
theorem lb_split : lb_law_1 = [sL 0, sL 1, sL 2, sL 3, sL 4, sL 5, sL 6] := rfl
@[simp] theorem all_w {w : List Ent} {os : List O} : mkT.allD (walkO w :: os) = none := rfl
theorem cut_ints {ns : List Int} {lo hi : Option Int} : ∃ ms : List Int, cutD (ns.map .int) lo hi = ms.map .int ∧ ms.length ≤ ns.length := by
  refine ⟨(ns.drop (HT.sIx ns.length 0 lo)).take (HT.sIx ns.length ns.length hi - HT.sIx ns.length 0 lo), ?_, ?_⟩
  · unfold cutD
    rw [List.length_map, List.map_take, List.map_drop]
  · rw [List.length_take, List.length_drop]
    omega
abbrev scr (ns : List Int) : Option O := some (.d (.lst (ns.map .int)))
theorem la0 {ns : List Int} (hn : ns.length ≤ 63) {k : Int} {s2 s3 s4 s5 s6 s7 : Option O} : ∃ o, Gd 0 o ∧ evS ΦA (sL 0) [scr ns, some (.d (.int k)), s2, s3, s4, s5, s6, s7] = .ok .nx [scr ns, some (.d (.int k)), some o, s3, s4, s5, s6, s7] := by
  obtain ⟨m1, c1, l1⟩ := cut_ints (ns := ns) (lo := some k) (hi := none)
  obtain ⟨m2, c2, l2⟩ := cut_ints (ns := ns) (lo := none) (hi := some k)
  obtain ⟨ls, e⟩ := begun2 (m1 ++ m2)
  refine ⟨_, ⟨ls, m1 ++ m2, 0, 0, rfl, by omega, by omega⟩, ?_⟩
  have hl : m1.length + m2.length ≤ 16777216 := by omega
  rw [List.map_append] at e
  simp [runF, evSs, evS, evI, evA, evL, evAs, evC, evCs, evCor, evCand, evAnd, evOr, evKs, ev, killE, backE, opR, opX, partOk, partD, argO, plainA, fnSh, isa1, mtTy, muTy, pathO, setPath, snd2, eqTy, callR, makeR, mkT, iosOf, evens, odds, flatS, Res.noX, rangeD, Fl.whl, phi, List.lookup, putD, PySem.sizeLine_eq, sL, lb_law_1, List.getD]
  simp [runF, evSs, evS, evI, evA, evL, evAs, evC, evCs, evCor, evCand, evAnd, evOr, evKs, ev, killE, backE, opR, opX, partOk, partD, argO, plainA, fnSh, isa1, mtTy, muTy, pathO, setPath, snd2, eqTy, callR, makeR, mkT, iosOf, evens, odds, flatS, Res.noX, rangeD, Fl.whl, phi, List.lookup, putD, PySem.sizeLine_eq, c1, c2, hl, Function.comp_def, e]
theorem la1 {s0 s1 : Option O} {o : O} (g : Gd 0 o) {s3 s4 s5 s6 s7 : Option O} : ∃ (gs : List Str) (o' : O), Gd 200 o' ∧ gs.length ≤ 12 ∧ gs.Nodup ∧ (∀ s ∈ gs, NameOk s) ∧ evS ΦA (sL 1) [s0, s1, some o, s3, s4, s5, s6, s7] = .ok .nx [s0, s1, some o', some (.lst (gs.map strO)), s4, s5, s6, s7] := by
  obtain ⟨v, o1, e1, v0, v1, g1⟩ := take (s := 13) g (by omega) (by omega) (by omega)
  obtain ⟨gs, o2, e2, h1, h2, h3, g2⟩ := names g1 (by omega) v0 v1
  obtain ⟨ls, cs, r, t, rfl⟩ := g.st
  obtain ⟨ls1, cs1, r1, t1, rfl⟩ := g1.st
  refine ⟨gs, o2, g2.mono (by omega), h1, h2, h3, ?_⟩
  simp [runF, evSs, evS, evI, evA, evL, evAs, evC, evCs, evCor, evCand, evAnd, evOr, evKs, ev, killE, backE, opR, opX, partOk, partD, argO, plainA, fnSh, isa1, mtTy, muTy, pathO, setPath, snd2, eqTy, callR, makeR, mkT, iosOf, evens, odds, flatS, Res.noX, rangeD, Fl.whl, phi, List.lookup, putD, PySem.sizeLine_eq, sL, lb_law_1, List.getD]
  simp [runF, evSs, evS, evI, evA, evL, evAs, evC, evCs, evCor, evCand, evAnd, evOr, evKs, ev, killE, backE, opR, opX, partOk, partD, argO, plainA, fnSh, isa1, mtTy, muTy, pathO, setPath, snd2, eqTy, callR, makeR, mkT, iosOf, evens, odds, flatS, Res.noX, rangeD, Fl.whl, phi, List.lookup, putD, PySem.sizeLine_eq, e1, e2]
theorem la2 {s0 s1 : Option O} {o : O} {gs : List Str} (g : Gd 200 o) (h1 : gs.length ≤ 12) (h2 : gs.Nodup) (h3 : ∀ s ∈ gs, NameOk s) {s4 s5 s6 s7 : Option O} : ∃ (f1 f2 : F) (o' : O), FOk f1 ∧ FOk f2 ∧ evS ΦA (sL 2) [s0, s1, some o, some (.lst (gs.map strO)), s4, s5, s6, s7] = .ok .nx [s0, s1, some o', some (.lst (gs.map strO)), some (walkO f1.walk), some (walkO f2.walk), s6, s7] := by
  obtain ⟨w1, o1, e1, r1, p1, l1, g1⟩ := walk g (by omega) h1
  obtain ⟨w2, o2, e2, r2, p2, l2, g2⟩ := walk g1 (by omega) h1
  obtain ⟨ls, cs, r, t, rfl⟩ := g.st
  obtain ⟨ls1, cs1, r1', t1, rfl⟩ := g1.st
  obtain ⟨f1, rfl⟩ := parsed r1
  obtain ⟨f2, rfl⟩ := parsed r2
  rw [F.opens_walk] at p1 p2
  have ok : ∀ f : F, f.names.Perm gs → FOk f := fun f p => ⟨p.nodup_iff.mpr h2, fun s hs => h3 s (p.mem_iff.mp hs), by rw [← F.names_len, p.length_eq]; exact h1⟩
  refine ⟨f1, f2, o2, ok f1 p1, ok f2 p2, ?_⟩
  simp [runF, evSs, evS, evI, evA, evL, evAs, evC, evCs, evCor, evCand, evAnd, evOr, evKs, ev, killE, backE, opR, opX, partOk, partD, argO, plainA, fnSh, isa1, mtTy, muTy, pathO, setPath, snd2, eqTy, callR, makeR, mkT, iosOf, evens, odds, flatS, Res.noX, rangeD, Fl.whl, phi, List.lookup, putD, PySem.sizeLine_eq, sL, lb_law_1, List.getD]
  simp [runF, evSs, evS, evI, evA, evL, evAs, evC, evCs, evCor, evCand, evAnd, evOr, evKs, ev, killE, backE, opR, opX, partOk, partD, argO, plainA, fnSh, isa1, mtTy, muTy, pathO, setPath, snd2, eqTy, callR, makeR, mkT, iosOf, evens, odds, flatS, Res.noX, rangeD, Fl.whl, phi, List.lookup, putD, PySem.sizeLine_eq, e1, e2]
theorem la3 {s0 s1 s2 s3 s5 s6 s7 : Option O} {f : F} (hf : FOk f) : evS ΦA (sL 3) [s0, s1, s2, s3, some (walkO f.walk), s5, s6, s7] = .ok .nx [s0, s1, s2, s3, some (walkO f.walk), s5, some (f.tr f.dicO), some f.dicO] := by
  have hz := hf.sz
  have e1 := shape (f := f) (by omega)
  have e2 := init hf
  have e3 := parents (f := f) (by omega) hf.nd
  simp [runF, evSs, evS, evI, evA, evL, evAs, evC, evCs, evCor, evCand, evAnd, evOr, evKs, ev, killE, backE, opR, opX, partOk, partD, argO, plainA, fnSh, isa1, mtTy, muTy, pathO, setPath, snd2, eqTy, callR, makeR, mkT, iosOf, evens, odds, flatS, Res.noX, rangeD, Fl.whl, phi, List.lookup, putD, PySem.sizeLine_eq, sL, lb_law_1, List.getD]
  simp [runF, evSs, evS, evI, evA, evL, evAs, evC, evCs, evCor, evCand, evAnd, evOr, evKs, ev, killE, backE, opR, opX, partOk, partD, argO, plainA, fnSh, isa1, mtTy, muTy, pathO, setPath, snd2, eqTy, callR, makeR, mkT, iosOf, evens, odds, flatS, Res.noX, rangeD, Fl.whl, phi, List.lookup, putD, PySem.sizeLine_eq, e1, e2, e3]
theorem la4 {s0 s1 s2 s3 s5 : Option O} {f : F} (hf : FOk f) : ∃ a : O, a.frz = f.dicD ∧ evS ΦA (sL 4) [s0, s1, s2, s3, some (walkO f.walk), s5, some (f.tr f.dicO), some f.dicO] = .ok .nx [s0, s1, s2, s3, some (walkO f.walk), s5, some (f.tr a), some (.d f.dicD)] := by
  obtain ⟨a1, h1, e1⟩ := values_right hf (a := f.dicO) (h := f.dicO) (by simp) (.inl rfl)
  obtain ⟨a2, h2, e2⟩ := lists_right hf.sz h1 (h := f.dicO) (.inl rfl)
  refine ⟨a2, h2, ?_⟩
  simp [runF, evSs, evS, evI, evA, evL, evAs, evC, evCs, evCor, evCand, evAnd, evOr, evKs, ev, killE, backE, opR, opX, partOk, partD, argO, plainA, fnSh, isa1, mtTy, muTy, pathO, setPath, snd2, eqTy, callR, makeR, mkT, iosOf, evens, odds, flatS, Res.noX, rangeD, Fl.whl, phi, List.lookup, putD, PySem.sizeLine_eq, sL, lb_law_1, List.getD]
  simp [runF, evSs, evS, evI, evA, evL, evAs, evC, evCs, evCor, evCand, evAnd, evOr, evKs, ev, killE, backE, opR, opX, partOk, partD, argO, plainA, fnSh, isa1, mtTy, muTy, pathO, setPath, snd2, eqTy, callR, makeR, mkT, iosOf, evens, odds, flatS, Res.noX, rangeD, Fl.whl, phi, List.lookup, putD, PySem.sizeLine_eq, e1]
  simp [runF, evSs, evS, evI, evA, evL, evAs, evC, evCs, evCor, evCand, evAnd, evOr, evKs, ev, killE, backE, opR, opX, partOk, partD, argO, plainA, fnSh, isa1, mtTy, muTy, pathO, setPath, snd2, eqTy, callR, makeR, mkT, iosOf, evens, odds, flatS, Res.noX, rangeD, Fl.whl, phi, List.lookup, putD, PySem.sizeLine_eq, e2]
theorem la5 {s0 s1 s2 s3 s5 : Option O} {f : F} (hf : FOk f) {a : O} (ha : a.frz = f.dicD) : ∃ a' : O, a'.frz = f.dicD ∧ evS ΦA (sL 5) [s0, s1, s2, s3, some (walkO f.walk), s5, some (f.tr a), some (.d f.dicD)] = .ok .nx [s0, s1, s2, s3, some (walkO f.walk), s5, some (f.tr a'), some (.d f.dicD)] := by
  obtain ⟨a1, h1, e1⟩ := values_right hf (a := a) (h := .d f.dicD) ha (.inr rfl)
  refine ⟨a1, h1, ?_⟩
  simp [runF, evSs, evS, evI, evA, evL, evAs, evC, evCs, evCor, evCand, evAnd, evOr, evKs, ev, killE, backE, opR, opX, partOk, partD, argO, plainA, fnSh, isa1, mtTy, muTy, pathO, setPath, snd2, eqTy, callR, makeR, mkT, iosOf, evens, odds, flatS, Res.noX, rangeD, Fl.whl, phi, List.lookup, putD, PySem.sizeLine_eq, sL, lb_law_1, List.getD]
  simp [runF, evSs, evS, evI, evA, evL, evAs, evC, evCs, evCor, evCand, evAnd, evOr, evKs, ev, killE, backE, opR, opX, partOk, partD, argO, plainA, fnSh, isa1, mtTy, muTy, pathO, setPath, snd2, eqTy, callR, makeR, mkT, iosOf, evens, odds, flatS, Res.noX, rangeD, Fl.whl, phi, List.lookup, putD, PySem.sizeLine_eq, e1]
theorem la6 {s0 s1 s2 s3 s7 : Option O} {f g : F} (hf : FOk f) (hg : FOk g) {a : O} : evS ΦA (sL 6) [s0, s1, s2, s3, some (walkO f.walk), some (walkO g.walk), some (f.tr a), s7] = .ok .nx [s0, s1, s2, s3, some (walkO f.walk), some (walkO g.walk), some (f.tr a), s7] := by
  have z1 := hf.sz
  have z2 := hg.sz
  have e1 := shape (f := f) (by omega)
  have e2 := shape (f := g) (by omega)
  have e3 := equal_right hf hg (a := a)
  simp [runF, evSs, evS, evI, evA, evL, evAs, evC, evCs, evCor, evCand, evAnd, evOr, evKs, ev, killE, backE, opR, opX, partOk, partD, argO, plainA, fnSh, isa1, mtTy, muTy, pathO, setPath, snd2, eqTy, callR, makeR, mkT, iosOf, evens, odds, flatS, Res.noX, rangeD, Fl.whl, phi, List.lookup, putD, PySem.sizeLine_eq, sL, lb_law_1, List.getD]
  simp [runF, evSs, evS, evI, evA, evL, evAs, evC, evCs, evCor, evCand, evAnd, evOr, evKs, ev, killE, backE, opR, opX, partOk, partD, argO, plainA, fnSh, isa1, mtTy, muTy, pathO, setPath, snd2, eqTy, callR, makeR, mkT, iosOf, evens, odds, flatS, Res.noX, rangeD, Fl.whl, phi, List.lookup, putD, PySem.sizeLine_eq, e1, e2, e3]
theorem law_step {ns : List Int} (hn : ns.length ≤ 63) {k : Int} {s1 s2 s3 s4 s5 s6 s7 : Option O} : ∃ t2 t3 t4 t5 t6 t7, (bnd (asgT (.nm 1) (.int k) [scr ns, s1, s2, s3, s4, s5, s6, s7]) fun ρ => evSs ΦA lb_law_1 ρ) = .ok .nx [scr ns, some (.d (.int k)), t2, t3, t4, t5, t6, t7] := by
  obtain ⟨o, g, e0⟩ := la0 hn (k := k) (s2 := s2) (s3 := s3) (s4 := s4) (s5 := s5) (s6 := s6) (s7 := s7)
  obtain ⟨gs, o1, g1, h1, h2, h3, e1⟩ := la1 g (s0 := scr ns) (s1 := some (.d (.int k))) (s3 := s3) (s4 := s4) (s5 := s5) (s6 := s6) (s7 := s7)
  obtain ⟨f1, f2, o2, k1, k2, e2⟩ := la2 g1 h1 h2 h3 (s0 := scr ns) (s1 := some (.d (.int k))) (s4 := s4) (s5 := s5) (s6 := s6) (s7 := s7)
  obtain ⟨a, ha, e4⟩ := la4 k1 (s0 := scr ns) (s1 := some (.d (.int k))) (s2 := some o2) (s3 := some (.lst (gs.map strO))) (s5 := some (walkO f2.walk))
  obtain ⟨a', ha', e5⟩ := la5 k1 ha (s0 := scr ns) (s1 := some (.d (.int k))) (s2 := some o2) (s3 := some (.lst (gs.map strO))) (s5 := some (walkO f2.walk))
  refine ⟨some o2, some (.lst (gs.map strO)), some (walkO f1.walk), some (walkO f2.walk), some (f1.tr a'), some (.d f1.dicD), ?_⟩
  · rw [q_asgT_nm, bnd_some, lb_split]
    exact step_nx e0 (step_nx e1 (step_nx e2 (step_nx (la3 k1) (step_nx e4 (step_nx e5 (step_nx (la6 k1 k2) rfl))))))
theorem law_loop {ns : List Int} (hn : ns.length ≤ 63) {lo : Int} : ∀ (n : Nat) (lo : Int) (s1 s2 s3 s4 s5 s6 s7 : Option O), ∃ t1 t2 t3 t4 t5 t6 t7, forL (fun x ρ => bnd (asgT (.nm 1) x ρ) fun ρ => evSs ΦA lb_law_1 ρ) (rangeL lo n) [scr ns, s1, s2, s3, s4, s5, s6, s7] = .ok .nx [scr ns, t1, t2, t3, t4, t5, t6, t7]
  | 0, lo, s1, s2, s3, s4, s5, s6, s7 => ⟨s1, s2, s3, s4, s5, s6, s7, rfl⟩
  | n + 1, lo, s1, s2, s3, s4, s5, s6, s7 => by
    obtain ⟨t2, t3, t4, t5, t6, t7, e⟩ := law_step hn (k := lo) (s1 := s1) (s2 := s2) (s3 := s3) (s4 := s4) (s5 := s5) (s6 := s6) (s7 := s7)
    obtain ⟨u1, u2, u3, u4, u5, u6, u7, e2⟩ := law_loop hn (lo := lo) n (lo + 1) (some (.d (.int lo))) t2 t3 t4 t5 t6 t7
    exact ⟨u1, u2, u3, u4, u5, u6, u7, by rw [rangeL_succ, forL, e]; exact e2⟩
end PV.K1
namespace PV.K1
open PySem L2 K01
theorem nilOk : FOk .nil := ⟨List.nodup_nil, (fun s h => nomatch (show s ∈ ([] : List Str) from h)), Nat.zero_le _⟩
abbrev nilT (a : O) : O := F.tr .nil a
theorem lw2 {s0 s1 s2 s3 s4 s5 s6 s7 : Option O} : evS ΦA (b_law.getD 1 .pass) [s0, s1, s2, s3, s4, s5, s6, s7] = .ok (.rt (.d (.bl true))) [s0, s1, s2, s3, s4, s5, s6, s7] := by
  have i : r_Tree__init_ [.obj 20 [] [], .d (.tup [])] = .ok (.d .non) [nilT (F.dicO .nil), .d (.tup [])] := init nilOk
  have q := t_eq (f := .nil) (g := .nil) (a := F.dicO .nil) (b := F.dicO .nil) (by decide) (by decide)
  have r1 : D.eqd (F.shD .nil) (F.shD .nil) = true := eqd_refl 150 _ (okd_sh (by decide))
  rw [r1] at q
  obtain ⟨a', _, e⟩ := t_roots (f := .nil) (a := F.dicO .nil) (by simp)
  have e : r_Tree_roots [nilT (F.dicO .nil)] = .ok (.lst []) [nilT a'] := e
  have w : r_Tree_walk [nilT (F.dicO .nil)] = .ok (.d (.tup [])) [nilT (F.dicO .nil)] := t_walk
  have h1 : ¬ (Str.ofString "roots") ∈ trK := by decide +kernel
  simp (decide := true) [runF, evSs, evS, evI, evA, evL, evAs, evC, evCs, evCor, evCand, evAnd, evOr, evKs, ev, killE, backE, opR, opX, partOk, partD, argO, plainA, fnSh, isa1, mtTy, muTy, pathO, setPath, snd2, eqTy, callR, makeR, mkT, iosOf, evens, odds, flatS, Res.noX, rangeD, Fl.whl, phi, List.lookup, putD, PySem.sizeLine_eq, b_law, List.getD, i]
  simp [runF, evSs, evS, evI, evA, evL, evAs, evC, evCs, evCor, evCand, evAnd, evOr, evKs, ev, killE, backE, opR, opX, partOk, partD, argO, plainA, fnSh, isa1, mtTy, muTy, pathO, setPath, snd2, eqTy, callR, makeR, mkT, iosOf, evens, odds, flatS, Res.noX, rangeD, Fl.whl, phi, List.lookup, putD, PySem.sizeLine_eq, q, w, e, okS, D.okd, D.okdL, D.eqd, D.eqdL, q_eqd_ii]
theorem lw1 {ns : List Int} (hn : ns.length ≤ 63) : ∃ t1 t2 t3 t4 t5 t6 t7, evS ΦA (b_law.getD 0 .pass) [scr ns, none, none, none, none, none, none, none] = .ok .nx [scr ns, t1, t2, t3, t4, t5, t6, t7] := by
  obtain ⟨m, hm⟩ : ∃ m : Int, fn2 .min2 (.int 8) (.int (ns.length : Int)) = some (.d (.int m)) ∧ m ≤ 8 := by
    rw [q_min]
    by_cases h : (ns.length : Int) < 8
    · exact ⟨_, rfl, by rw [if_pos h]; omega⟩
    · exact ⟨_, rfl, by rw [if_neg h]; omega⟩
  obtain ⟨j, hj⟩ : ∃ j : Int, fn2 .max2 (.int 1) (.int m) = some (.d (.int j)) ∧ 1 ≤ j ∧ j ≤ 8 := by
    rw [q_max]
    by_cases h : m > 1
    · exact ⟨_, rfl, by rw [if_pos h]; omega⟩
    · exact ⟨_, rfl, by rw [if_neg h]; omega⟩
  obtain ⟨t1, t2, t3, t4, t5, t6, t7, e⟩ := law_loop hn (lo := 0) j.toNat 0 none none none none none none none
  refine ⟨t1, t2, t3, t4, t5, t6, t7, ?_⟩
  have hr : -4611686018427387904 ≤ j ∧ j ≤ 16777216 := by omega
  rw [show b_law.getD 0 .pass = .for (.nm 1) (.range [.fn .max2 [.lit (.int 1), .fn .min2 [.lit (.int 8), .fn .len [.var 0]]]]) lb_law_1 from rfl]
  simp [runF, evSs, evS, evI, evA, evL, evAs, evC, evCs, evCor, evCand, evAnd, evOr, evKs, ev, killE, backE, opR, opX, partOk, partD, argO, plainA, fnSh, isa1, mtTy, muTy, pathO, setPath, snd2, eqTy, callR, makeR, mkT, iosOf, evens, odds, flatS, Res.noX, rangeD, Fl.whl, phi, List.lookup, putD, PySem.sizeLine_eq] at e
  simp [runF, evSs, evS, evI, evA, evL, evAs, evC, evCs, evCor, evCand, evAnd, evOr, evKs, ev, killE, backE, opR, opX, partOk, partD, argO, plainA, fnSh, isa1, mtTy, muTy, pathO, setPath, snd2, eqTy, callR, makeR, mkT, iosOf, evens, odds, flatS, Res.noX, rangeD, Fl.whl, phi, List.lookup, putD, PySem.sizeLine_eq, hm.1, hj.1, -q_min, -q_max]
  simp [runF, evSs, evS, evI, evA, evL, evAs, evC, evCs, evCor, evCand, evAnd, evOr, evKs, ev, killE, backE, opR, opX, partOk, partD, argO, plainA, fnSh, isa1, mtTy, muTy, pathO, setPath, snd2, eqTy, callR, makeR, mkT, iosOf, evens, odds, flatS, Res.noX, rangeD, Fl.whl, phi, List.lookup, putD, PySem.sizeLine_eq, hr, e]
  trace_state
end PV.K1
namespace K01
open PySem L2 PV PV.K1
theorem pure_law (ns : List Int) (h : ns.length ≤ 63) : ∃ o, r_law [.d (.lst (ns.map .int))] = .ok (.d (.bl true)) [o] := by
  obtain ⟨t1, t2, t3, t4, t5, t6, t7, e⟩ := lw1 h
  have hr : evSs ΦA b_law [scr ns, none, none, none, none, none, none, none] = .ok (.rt (.d (.bl true))) [scr ns, t1, t2, t3, t4, t5, t6, t7] := by
    rw [show b_law = [b_law.getD 0 .pass, b_law.getD 1 .pass] from rfl]
    exact step_nx e (step_rt lw2)
  refine ⟨.d (.lst (ns.map .int)), (runD_eq (by rfl) (by rfl)).trans ?_⟩
  show (evSs ΦA b_law [scr ns, none, none, none, none, none, none, none]).done [.d (.lst (ns.map .int))] = _
  rw [hr]
  rfl
end K01
namespace K01
open PySem PySem.Spec PyProof.Rows L2 PV
open He (ga ma)
def nm : Nat → Str
  | 20 => "Tree"
  | _ => ""
def d_is_name : DefA := ⟨fun K => ga K "is_name", "is_name", "is_name", defArgs st_is_name, defBody st_is_name, defScope st_is_name, [], []⟩
def d_l_begun : DefA := ⟨fun K => ga K "_law_begun", "_law_begun", "_law_begun", defArgs st_l_begun, defBody st_l_begun, defScope st_l_begun, [], []⟩
def d_l_mixed : DefA := ⟨fun K => ga K "_law_mixed", "_law_mixed", "_law_mixed", defArgs st_l_mixed, defBody st_l_mixed, defScope st_l_mixed, [], []⟩
def d_l_take : DefA := ⟨fun K => ga K "_law_take", "_law_take", "_law_take", defArgs st_l_take, defBody st_l_take, defScope st_l_take, [], []⟩
def d_l_pick : DefA := ⟨fun K => ga K "_law_pick", "_law_pick", "_law_pick", defArgs st_l_pick, defBody st_l_pick, defScope st_l_pick, [], []⟩
def d_l_name : DefA := ⟨fun K => ga K "_law_name", "_law_name", "_law_name", defArgs st_l_name, defBody st_l_name, defScope st_l_name, [], []⟩
def d_l_names : DefA := ⟨fun K => ga K "_law_names", "_law_names", "_law_names", defArgs st_l_names, defBody st_l_names, defScope st_l_names, [], []⟩
def d_l_woven : DefA := ⟨fun K => ga K "_law_woven", "_law_woven", "_law_woven", defArgs st_l_woven, defBody st_l_woven, defScope st_l_woven, [], []⟩
def d_l_walk : DefA := ⟨fun K => ga K "_law_walk", "_law_walk", "_law_walk", defArgs st_l_walk, defBody st_l_walk, defScope st_l_walk, [], []⟩
def d_l_shape : DefA := ⟨fun K => ga K "_law_shape", "_law_shape", "_law_shape", defArgs st_l_shape, defBody st_l_shape, defScope st_l_shape, [], []⟩
def d_l_parents : DefA := ⟨fun K => ga K "_law_parents", "_law_parents", "_law_parents", defArgs st_l_parents, defBody st_l_parents, defScope st_l_parents, [], []⟩
def d_is_shape : DefA := ⟨fun K => ga K "is_shape", "is_shape", "is_shape", defArgs st_is_shape, defBody st_is_shape, defScope st_is_shape, [], []⟩
def d_walk_of : DefA := ⟨fun K => ga K "walk_of", "walk_of", "walk_of", defArgs st_walk_of, defBody st_walk_of, defScope st_walk_of, [], []⟩
def d_Tree__init_ : DefA := ⟨fun K => ma K (ga K "Tree") "__init__", "__init__", "Tree.__init__", defArgs st_Tree__init_, defBody st_Tree__init_, defScope st_Tree__init_, [.adr (He.dflAt ("Tree", some "__init__") 0)], []⟩
def d_Tree_shape : DefA := ⟨fun K => pgA K "Tree" "shape", "shape", "Tree.shape", defArgs st_Tree_shape, defBody st_Tree_shape, defScope st_Tree_shape, [], []⟩
def d_Tree_walk : DefA := ⟨fun K => pgA K "Tree" "walk", "walk", "Tree.walk", defArgs st_Tree_walk, defBody st_Tree_walk, defScope st_Tree_walk, [], []⟩
def d_Tree_names : DefA := ⟨fun K => pgA K "Tree" "names", "names", "Tree.names", defArgs st_Tree_names, defBody st_Tree_names, defScope st_Tree_names, [], []⟩
def d_Tree__len_ : DefA := ⟨fun K => ma K (ga K "Tree") "__len__", "__len__", "Tree.__len__", defArgs st_Tree__len_, defBody st_Tree__len_, defScope st_Tree__len_, [], []⟩
def d_Tree__contains_ : DefA := ⟨fun K => ma K (ga K "Tree") "__contains__", "__contains__", "Tree.__contains__", defArgs st_Tree__contains_, defBody st_Tree__contains_, defScope st_Tree__contains_, [], []⟩
def d_Tree__eq_ : DefA := ⟨fun K => ma K (ga K "Tree") "__eq__", "__eq__", "Tree.__eq__", defArgs st_Tree__eq_, defBody st_Tree__eq_, defScope st_Tree__eq_, [], []⟩
def d_Tree_need_name : DefA := ⟨fun K => ma K (ga K "Tree") "need_name", "need_name", "Tree.need_name", defArgs st_Tree_need_name, defBody st_Tree_need_name, defScope st_Tree_need_name, [], []⟩
def d_Tree_parent : DefA := ⟨fun K => ma K (ga K "Tree") "parent", "parent", "Tree.parent", defArgs st_Tree_parent, defBody st_Tree_parent, defScope st_Tree_parent, [], []⟩
def d_Tree_children : DefA := ⟨fun K => ma K (ga K "Tree") "children", "children", "Tree.children", defArgs st_Tree_children, defBody st_Tree_children, defScope st_Tree_children, [], []⟩
def d_Tree_roots : DefA := ⟨fun K => ma K (ga K "Tree") "roots", "roots", "Tree.roots", defArgs st_Tree_roots, defBody st_Tree_roots, defScope st_Tree_roots, [], []⟩
def d_l_lists_right : DefA := ⟨fun K => ga K "_law_lists_right", "_law_lists_right", "_law_lists_right", defArgs st_l_lists_right, defBody st_l_lists_right, defScope st_l_lists_right, [], []⟩
def d_l_values_right : DefA := ⟨fun K => ga K "_law_values_right", "_law_values_right", "_law_values_right", defArgs st_l_values_right, defBody st_l_values_right, defScope st_l_values_right, [], []⟩
def d_l_equal_right : DefA := ⟨fun K => ga K "_law_equal_right", "_law_equal_right", "_law_equal_right", defArgs st_l_equal_right, defBody st_l_equal_right, defScope st_l_equal_right, [], []⟩
def d_law : DefA := ⟨fun K => ga K "law", "law", "law", defArgs st_law, defBody st_law, defScope st_law, [], []⟩
def fn : List DefA := [d_is_name, d_l_begun, d_l_mixed, d_l_take, d_l_pick, d_l_name, d_l_names, d_l_woven, d_l_walk, d_l_shape, d_l_parents, d_is_shape, d_walk_of, d_Tree__init_, d_Tree_shape, d_Tree_walk, d_Tree_names, d_Tree__len_, d_Tree__contains_, d_Tree__eq_] ++ [d_Tree_need_name, d_Tree_parent, d_Tree_children, d_Tree_roots, d_l_lists_right, d_l_values_right, d_l_equal_right, d_law]
def dv_Tree__init_ (K : Frg) : D → V
  | .tup _ => V.ref (He.dflAt ("Tree", some "__init__") 0 K)
  | _ => .non
def fs0 : List (Frg → Bool) := [isaB nm [20], fa (.free "str"), fa (.free "isinstance"), fa (.free "len"), fa (.int "MOST_LETTERS" 8), fa (.str "LETTERS" "abcdefghijklmnopqrstuvwxyz"), fa (.free "all"), fa (.free "list"), fa (.free "int"), fa (.glo "_law_mixed"), fa (.glo "_law_take"), fa (.free "range"), fa (.glo "_law_name"), fa (.glo "_law_pick"), fa (.glo "_law_woven"), fa (.free "tuple"), fa (.glo "is_name"), fa (.int "MOST_NAMES" 12), fa (.free "set"), fa (.glo "walk_of")]
def fs1 : List (Frg → Bool) := [fa (.glo "is_shape"), fa (.cls "Tree"), fa (.noat "Tree" "own_shape"), fa (.noat "Tree" "own_walk"), fa (.noat "Tree" "own_names"), fa (.noat "Tree" "above"), fa (.glo "Tree"), fa (.meth "Tree" "need_name"), fa (.meth "Tree" "roots"), fa (.meth "Tree" "children"), fa (.glo "_law_shape"), propB "Tree" "shape", propB "Tree" "walk", propB "Tree" "names", fa (.meth "Tree" "__len__"), fa (.meth "Tree" "__contains__"), fa (.meth "Tree" "parent"), fa (.meth "Tree" "__eq__"), eqB (nm 20), fa (.meth "Tree" "__init__")]
def fs2 : List (Frg → Bool) := [fa (.mkr "Tree"), tup0B (He.dflAt ("Tree", some "__init__") 0), fa (.free "min"), fa (.free "max"), fa (.glo "_law_begun"), fa (.glo "_law_names"), fa (.glo "_law_walk"), fa (.glo "_law_parents"), fa (.glo "_law_values_right"), fa (.glo "_law_lists_right"), fa (.glo "_law_equal_right"), conB "Tree" "MOST" (.int 12), fa (.glo "law")]
def fs : List (Frg → Bool) := fs0 ++ fs1 ++ fs2
def lo0 : List Str := ["_wall", "__name__", "TreeError", "BadTree", "UnknownName", "LETTERS", "MOST_LETTERS", "MOST_NAMES", "is_name", "is_shape", "walk_of", "Tree", "_law_begun", "_law_mixed", "_law_take", "_law_pick", "_law_name", "_law_names", "_law_woven", "_law_walk"]
def lo1 : List Str := ["_law_shape", "_law_parents", "_law_lists_right", "_law_values_right", "_law_equal_right"]
def lo : List Str := lo0 ++ lo1
abbrev R : PySem.W.OpenRow := PySem.W.OpenLaw.row PySem.Challenge.rw_lastnumbers_k01_trees_of_shapes
abbrev hk : PySem.W.Hook := hookP 6 fs fn
def ob (s : PySem.W.SharedT) : He.AlD := obsPG 6 fs fn (HandSHeadRun.getT s)
theorem ob_eq (s : PySem.W.SharedT) : ob s = hk.obs s.abs := obsPG_eq (HandSHeadRun.getT_eq s)
theorem run (w : World) : HandSHeadRun.RunEq R (PySem.W.view R.prog [27]) hk ob 6000 lo w := by
  intro os
  kernel_rfl
theorem facts {P : Program} {w : World} {K : PySem.W.Frag} {h : Heap} {mg : Str → Option Value} {f : Addr} (X : K.In h) (G : h.Ns mainGlobals mg) (hfa : mg ("law" : Str) = some (.ref f)) (c : SaysP fs fn K) : ∃ fd : FuncData, (∀ (s : Shared) (v : Value), BindsTo s fd ⟨[v], []⟩ [("_law_script", v)]) ∧ ∀ base : Heap, K.In base → base.Ns mainGlobals mg → FnOk P w K mg base (L2.CX P w) 44 f fd ["_law_script"] (spOf (tabK nm K) r_law) := by
  obtain ⟨fd_is_name, F_is_name⟩ := c.def_ 0 (d := d_is_name) rfl
  obtain ⟨fd_l_begun, F_l_begun⟩ := c.def_ 1 (d := d_l_begun) rfl
  obtain ⟨fd_l_mixed, F_l_mixed⟩ := c.def_ 2 (d := d_l_mixed) rfl
  obtain ⟨fd_l_take, F_l_take⟩ := c.def_ 3 (d := d_l_take) rfl
  obtain ⟨fd_l_pick, F_l_pick⟩ := c.def_ 4 (d := d_l_pick) rfl
  obtain ⟨fd_l_name, F_l_name⟩ := c.def_ 5 (d := d_l_name) rfl
  obtain ⟨fd_l_names, F_l_names⟩ := c.def_ 6 (d := d_l_names) rfl
  obtain ⟨fd_l_woven, F_l_woven⟩ := c.def_ 7 (d := d_l_woven) rfl
  obtain ⟨fd_l_walk, F_l_walk⟩ := c.def_ 8 (d := d_l_walk) rfl
  obtain ⟨fd_l_shape, F_l_shape⟩ := c.def_ 9 (d := d_l_shape) rfl
  obtain ⟨fd_l_parents, F_l_parents⟩ := c.def_ 10 (d := d_l_parents) rfl
  obtain ⟨fd_is_shape, F_is_shape⟩ := c.def_ 11 (d := d_is_shape) rfl
  obtain ⟨fd_walk_of, F_walk_of⟩ := c.def_ 12 (d := d_walk_of) rfl
  obtain ⟨fd_Tree__init_, F_Tree__init_⟩ := c.def_ 13 (d := d_Tree__init_) rfl
  obtain ⟨fd_Tree_shape, F_Tree_shape⟩ := c.def_ 14 (d := d_Tree_shape) rfl
  obtain ⟨fd_Tree_walk, F_Tree_walk⟩ := c.def_ 15 (d := d_Tree_walk) rfl
  obtain ⟨fd_Tree_names, F_Tree_names⟩ := c.def_ 16 (d := d_Tree_names) rfl
  obtain ⟨fd_Tree__len_, F_Tree__len_⟩ := c.def_ 17 (d := d_Tree__len_) rfl
  obtain ⟨fd_Tree__contains_, F_Tree__contains_⟩ := c.def_ 18 (d := d_Tree__contains_) rfl
  obtain ⟨fd_Tree__eq_, F_Tree__eq_⟩ := c.def_ 19 (d := d_Tree__eq_) rfl
  obtain ⟨fd_Tree_need_name, F_Tree_need_name⟩ := c.def_ 20 (d := d_Tree_need_name) rfl
  obtain ⟨fd_Tree_parent, F_Tree_parent⟩ := c.def_ 21 (d := d_Tree_parent) rfl
  obtain ⟨fd_Tree_children, F_Tree_children⟩ := c.def_ 22 (d := d_Tree_children) rfl
  obtain ⟨fd_Tree_roots, F_Tree_roots⟩ := c.def_ 23 (d := d_Tree_roots) rfl
  obtain ⟨fd_l_lists_right, F_l_lists_right⟩ := c.def_ 24 (d := d_l_lists_right) rfl
  obtain ⟨fd_l_values_right, F_l_values_right⟩ := c.def_ 25 (d := d_l_values_right) rfl
  obtain ⟨fd_l_equal_right, F_l_equal_right⟩ := c.def_ 26 (d := d_l_equal_right) rfl
  obtain ⟨fd_law, F_law⟩ := c.def_ 27 (d := d_law) rfl
  have b_is_name : Binds K fd_is_name ["value"] [] := FunD.bindsN F_is_name fun _ _ _ _ _ _ us hl => match us, hl with | [_], _ => rfl
  have b_l_begun : Binds K fd_l_begun ["_law_script"] [] := FunD.bindsN F_l_begun fun _ _ _ _ _ _ us hl => match us, hl with | [_], _ => rfl
  have b_l_mixed : Binds K fd_l_mixed ["_law_state"] [] := FunD.bindsN F_l_mixed fun _ _ _ _ _ _ us hl => match us, hl with | [_], _ => rfl
  have b_l_take : Binds K fd_l_take ["_law_state", "_law_size"] [] := FunD.bindsN F_l_take fun _ _ _ _ _ _ us hl => match us, hl with | [_, _], _ => rfl
  have b_l_pick : Binds K fd_l_pick ["_law_state", "_law_some"] [] := FunD.bindsN F_l_pick fun _ _ _ _ _ _ us hl => match us, hl with | [_, _], _ => rfl
  have b_l_name : Binds K fd_l_name ["_law_state"] [] := FunD.bindsN F_l_name fun _ _ _ _ _ _ us hl => match us, hl with | [_], _ => rfl
  have b_l_names : Binds K fd_l_names ["_law_state", "_law_many"] [] := FunD.bindsN F_l_names fun _ _ _ _ _ _ us hl => match us, hl with | [_, _], _ => rfl
  have b_l_woven : Binds K fd_l_woven ["_law_state", "_law_walk_here", "_law_name_here"] [] := FunD.bindsN F_l_woven fun _ _ _ _ _ _ us hl => match us, hl with | [_, _, _], _ => rfl
  have b_l_walk : Binds K fd_l_walk ["_law_state", "_law_names_here"] [] := FunD.bindsN F_l_walk fun _ _ _ _ _ _ us hl => match us, hl with | [_, _], _ => rfl
  have b_l_shape : Binds K fd_l_shape ["_law_walk_here"] [] := FunD.bindsN F_l_shape fun _ _ _ _ _ _ us hl => match us, hl with | [_], _ => rfl
  have b_l_parents : Binds K fd_l_parents ["_law_walk_here"] [] := FunD.bindsN F_l_parents fun _ _ _ _ _ _ us hl => match us, hl with | [_], _ => rfl
  have b_is_shape : Binds K fd_is_shape ["value"] [] := FunD.bindsN F_is_shape fun _ _ _ _ _ _ us hl => match us, hl with | [_], _ => rfl
  have b_walk_of : Binds K fd_walk_of ["shape"] [] := FunD.bindsN F_walk_of fun _ _ _ _ _ _ us hl => match us, hl with | [_], _ => rfl
  have b_Tree__init_ : Binds K fd_Tree__init_ ["self", "shape"] [] := bindsF F_Tree__init_ (by intro z; cases z) fun _ _ _ _ _ _ _ us its l1 l2 => match us, its, l1, l2 with | [_, _], [_], _, _ => ⟨_, rfl, rfl⟩
  have b_Tree_shape : Binds K fd_Tree_shape ["self"] [] := FunD.bindsN F_Tree_shape fun _ _ _ _ _ _ us hl => match us, hl with | [_], _ => rfl
  have b_Tree_walk : Binds K fd_Tree_walk ["self"] [] := FunD.bindsN F_Tree_walk fun _ _ _ _ _ _ us hl => match us, hl with | [_], _ => rfl
  have b_Tree_names : Binds K fd_Tree_names ["self"] [] := FunD.bindsN F_Tree_names fun _ _ _ _ _ _ us hl => match us, hl with | [_], _ => rfl
  have b_Tree__len_ : Binds K fd_Tree__len_ ["self"] [] := FunD.bindsN F_Tree__len_ fun _ _ _ _ _ _ us hl => match us, hl with | [_], _ => rfl
  have b_Tree__contains_ : Binds K fd_Tree__contains_ ["self", "name"] [] := FunD.bindsN F_Tree__contains_ fun _ _ _ _ _ _ us hl => match us, hl with | [_, _], _ => rfl
  have b_Tree__eq_ : Binds K fd_Tree__eq_ ["self", "other"] [] := FunD.bindsN F_Tree__eq_ fun _ _ _ _ _ _ us hl => match us, hl with | [_, _], _ => rfl
  have b_Tree_need_name : Binds K fd_Tree_need_name ["self", "name"] [] := FunD.bindsN F_Tree_need_name fun _ _ _ _ _ _ us hl => match us, hl with | [_, _], _ => rfl
  have b_Tree_parent : Binds K fd_Tree_parent ["self", "name"] [] := FunD.bindsN F_Tree_parent fun _ _ _ _ _ _ us hl => match us, hl with | [_, _], _ => rfl
  have b_Tree_children : Binds K fd_Tree_children ["self", "name"] [] := FunD.bindsN F_Tree_children fun _ _ _ _ _ _ us hl => match us, hl with | [_, _], _ => rfl
  have b_Tree_roots : Binds K fd_Tree_roots ["self"] [] := FunD.bindsN F_Tree_roots fun _ _ _ _ _ _ us hl => match us, hl with | [_], _ => rfl
  have b_l_lists_right : Binds K fd_l_lists_right ["_law_tree", "_law_above"] [] := FunD.bindsN F_l_lists_right fun _ _ _ _ _ _ us hl => match us, hl with | [_, _], _ => rfl
  have b_l_values_right : Binds K fd_l_values_right ["_law_tree", "_law_walk_here", "_law_above"] [] := FunD.bindsN F_l_values_right fun _ _ _ _ _ _ us hl => match us, hl with | [_, _, _], _ => rfl
  have b_l_equal_right : Binds K fd_l_equal_right ["_law_tree", "_law_figure", "_law_other"] [] := FunD.bindsN F_l_equal_right fun _ _ _ _ _ _ us hl => match us, hl with | [_, _, _], _ => rfl
  have b_law : Binds K fd_law ["_law_script"] [] := FunD.bindsN F_law fun _ _ _ _ _ _ us hl => match us, hl with | [_], _ => rfl
  have e := hfa.symm.trans (He.glo_ok X G (c.fact 52))
  cases e
  have b := FunD.bindsA (ps := ["_law_script"]) F_law fun _ _ _ _ _ _ us hl => match us, hl with | [_], _ => rfl
  refine ⟨fd_law, fun s v => b s [v] rfl, fun base _ _ => ?_⟩
  have v_is_name : FnOk P w K mg base (L2.CX P w) 1 _ fd_is_name ["value"] (spOf (tabK nm K) r_is_name) := w_is_name F_is_name (isaB_ok (nm := nm) (c.fact 0)) (He.free_ok X G (c.fact 1)) (He.free_ok X G (c.fact 2)) (He.free_ok X G (c.fact 3)) (He.int_ok X G (c.fact 4)) (He.str_ok X G (c.fact 5)) (He.free_ok X G (c.fact 6))
  have v_l_begun : FnOk P w K mg base (L2.CX P w) 1 _ fd_l_begun ["_law_script"] (spOf (tabK nm K) r_l_begun) := w_l_begun F_l_begun (He.free_ok X G (c.fact 7))
  have v_l_mixed : FnOk P w K mg base (L2.CX P w) 1 _ fd_l_mixed ["_law_state"] (spOf (tabK nm K) r_l_mixed) := w_l_mixed F_l_mixed (He.free_ok X G (c.fact 8))
  have v_l_take : FnOk P w K mg base (L2.CX P w) 2 _ fd_l_take ["_law_state", "_law_size"] (spOf (tabK nm K) r_l_take) := w_l_take F_l_take ⟨_, _, v_l_mixed, (He.glo_ok X G (c.fact 9)), F_l_mixed.kp, b_l_mixed⟩ (He.free_ok X G (c.fact 8))
  have v_l_pick : FnOk P w K mg base (L2.CX P w) 3 _ fd_l_pick ["_law_state", "_law_some"] (spOf (tabK nm K) r_l_pick) := w_l_pick F_l_pick ⟨_, _, v_l_take, (He.glo_ok X G (c.fact 10)), F_l_take.kp, b_l_take⟩ (He.free_ok X G (c.fact 3))
  have v_l_name : FnOk P w K mg base (L2.CX P w) 3 _ fd_l_name ["_law_state"] (spOf (tabK nm K) r_l_name) := w_l_name F_l_name ⟨_, _, v_l_take, (He.glo_ok X G (c.fact 10)), F_l_take.kp, b_l_take⟩ (He.free_ok X G (c.fact 3)) (He.free_ok X G (c.fact 11))
  have v_l_names : FnOk P w K mg base (L2.CX P w) 4 _ fd_l_names ["_law_state", "_law_many"] (spOf (tabK nm K) r_l_names) := w_l_names F_l_names (He.free_ok X G (c.fact 11)) ⟨_, _, v_l_name, (He.glo_ok X G (c.fact 12)), F_l_name.kp, b_l_name⟩
  have v_l_woven : FnOk P w K mg base (L2.CX P w) 4 _ fd_l_woven ["_law_state", "_law_walk_here", "_law_name_here"] (spOf (tabK nm K) r_l_woven) := w_l_woven F_l_woven ⟨_, _, v_l_take, (He.glo_ok X G (c.fact 10)), F_l_take.kp, b_l_take⟩ (He.free_ok X G (c.fact 3)) (He.free_ok X G (c.fact 11)) ⟨_, _, v_l_pick, (He.glo_ok X G (c.fact 13)), F_l_pick.kp, b_l_pick⟩
  have v_l_walk : FnOk P w K mg base (L2.CX P w) 5 _ fd_l_walk ["_law_state", "_law_names_here"] (spOf (tabK nm K) r_l_walk) := w_l_walk F_l_walk ⟨_, _, v_l_woven, (He.glo_ok X G (c.fact 14)), F_l_woven.kp, b_l_woven⟩
  have v_l_shape : FnOk P w K mg base (L2.CX P w) 1 _ fd_l_shape ["_law_walk_here"] (spOf (tabK nm K) r_l_shape) := w_l_shape F_l_shape (He.free_ok X G (c.fact 15))
  have v_l_parents : FnOk P w K mg base (L2.CX P w) 1 _ fd_l_parents ["_law_walk_here"] (spOf (tabK nm K) r_l_parents) := w_l_parents F_l_parents 
  have v_is_shape : FnOk P w K mg base (L2.CX P w) 2 _ fd_is_shape ["value"] (spOf (tabK nm K) r_is_shape) := w_is_shape F_is_shape (isaB_ok (nm := nm) (c.fact 0)) (He.free_ok X G (c.fact 15)) (He.free_ok X G (c.fact 2)) (He.free_ok X G (c.fact 3)) ⟨_, _, v_is_name, (He.glo_ok X G (c.fact 16)), F_is_name.kp, b_is_name⟩ (He.int_ok X G (c.fact 17)) (He.free_ok X G (c.fact 18))
  have v_walk_of : FnOk P w K mg base (L2.CX P w) 40 _ fd_walk_of ["shape"] (spOf (tabK nm K) r_walk_of) := w_walk_of F_walk_of (He.glo_ok X G (c.fact 19)) b_walk_of 
  have v_Tree__init_ : FnOk P w K mg base (L2.CX P w) 41 _ fd_Tree__init_ ["self", "shape"] (spOf (tabK nm K) r_Tree__init_) := w_Tree__init_ F_Tree__init_ ⟨_, _, v_is_shape, (He.glo_ok X G (c.fact 20)), F_is_shape.kp, b_is_shape⟩ ⟨He.cls_ok (c.fact 21), He.noat_ok (c.fact 22)⟩ ⟨He.cls_ok (c.fact 21), He.noat_ok (c.fact 23)⟩ ⟨_, _, v_walk_of, (He.glo_ok X G (c.fact 19)), F_walk_of.kp, b_walk_of⟩ (He.free_ok X G (c.fact 15)) ⟨He.cls_ok (c.fact 21), He.noat_ok (c.fact 24)⟩ ⟨He.cls_ok (c.fact 21), He.noat_ok (c.fact 25)⟩
  have v_Tree_shape : FnOk P w K mg base (L2.CX P w) 1 _ fd_Tree_shape ["self"] (spOf (tabK nm K) r_Tree_shape) := w_Tree_shape F_Tree_shape ⟨He.cls_ok (c.fact 21), He.noat_ok (c.fact 22)⟩
  have v_Tree_walk : FnOk P w K mg base (L2.CX P w) 1 _ fd_Tree_walk ["self"] (spOf (tabK nm K) r_Tree_walk) := w_Tree_walk F_Tree_walk ⟨He.cls_ok (c.fact 21), He.noat_ok (c.fact 23)⟩
  have v_Tree_names : FnOk P w K mg base (L2.CX P w) 1 _ fd_Tree_names ["self"] (spOf (tabK nm K) r_Tree_names) := w_Tree_names F_Tree_names ⟨He.cls_ok (c.fact 21), He.noat_ok (c.fact 24)⟩
  have v_Tree__len_ : FnOk P w K mg base (L2.CX P w) 1 _ fd_Tree__len_ ["self"] (spOf (tabK nm K) r_Tree__len_) := w_Tree__len_ F_Tree__len_ ⟨He.cls_ok (c.fact 21), He.noat_ok (c.fact 24)⟩ (He.free_ok X G (c.fact 3))
  have v_Tree__contains_ : FnOk P w K mg base (L2.CX P w) 1 _ fd_Tree__contains_ ["self", "name"] (spOf (tabK nm K) r_Tree__contains_) := w_Tree__contains_ F_Tree__contains_ ⟨He.cls_ok (c.fact 21), He.noat_ok (c.fact 24)⟩
  have v_Tree__eq_ : FnOk P w K mg base (L2.CX P w) 1 _ fd_Tree__eq_ ["self", "other"] (spOf (tabK nm K) r_Tree__eq_) := w_Tree__eq_ F_Tree__eq_ (isaB_ok (nm := nm) (c.fact 0)) (He.glo_ok X G (c.fact 26)) (He.free_ok X G (c.fact 2)) ⟨He.cls_ok (c.fact 21), He.noat_ok (c.fact 22)⟩
  have v_Tree_need_name : FnOk P w K mg base (L2.CX P w) 1 _ fd_Tree_need_name ["self", "name"] (spOf (tabK nm K) r_Tree_need_name) := w_Tree_need_name F_Tree_need_name ⟨He.cls_ok (c.fact 21), He.noat_ok (c.fact 24)⟩
  have v_Tree_parent : FnOk P w K mg base (L2.CX P w) 2 _ fd_Tree_parent ["self", "name"] (spOf (tabK nm K) r_Tree_parent) := w_Tree_parent F_Tree_parent ⟨He.cls_ok (c.fact 21), _, _, v_Tree_need_name, He.meth_ok (c.fact 27), b_Tree_need_name⟩ ⟨He.cls_ok (c.fact 21), He.noat_ok (c.fact 25)⟩
  have v_Tree_children : FnOk P w K mg base (L2.CX P w) 2 _ fd_Tree_children ["self", "name"] (spOf (tabK nm K) r_Tree_children) := w_Tree_children F_Tree_children ⟨He.cls_ok (c.fact 21), _, _, v_Tree_need_name, He.meth_ok (c.fact 27), b_Tree_need_name⟩ ⟨He.cls_ok (c.fact 21), He.noat_ok (c.fact 24)⟩ ⟨He.cls_ok (c.fact 21), He.noat_ok (c.fact 25)⟩
  have v_Tree_roots : FnOk P w K mg base (L2.CX P w) 1 _ fd_Tree_roots ["self"] (spOf (tabK nm K) r_Tree_roots) := w_Tree_roots F_Tree_roots ⟨He.cls_ok (c.fact 21), He.noat_ok (c.fact 24)⟩ ⟨He.cls_ok (c.fact 21), He.noat_ok (c.fact 25)⟩
  have v_l_lists_right : FnOk P w K mg base (L2.CX P w) 3 _ fd_l_lists_right ["_law_tree", "_law_above"] (spOf (tabK nm K) r_l_lists_right) := w_l_lists_right F_l_lists_right (He.free_ok X G (c.fact 7)) (He.free_ok X G (c.fact 11)) ⟨He.cls_ok (c.fact 21), _, _, v_Tree_roots, He.meth_ok (c.fact 28), b_Tree_roots⟩ ⟨He.cls_ok (c.fact 21), _, _, v_Tree_children, He.meth_ok (c.fact 29), b_Tree_children⟩ (isaB_ok (nm := nm) (c.fact 0)) (He.free_ok X G (c.fact 2))
  have v_l_values_right : FnOk P w K mg base (L2.CX P w) 3 _ fd_l_values_right ["_law_tree", "_law_walk_here", "_law_above"] (spOf (tabK nm K) r_l_values_right) := w_l_values_right F_l_values_right (He.free_ok X G (c.fact 7)) ⟨_, _, v_l_shape, (He.glo_ok X G (c.fact 30)), F_l_shape.kp, b_l_shape⟩ ⟨He.cls_ok (c.fact 21), _, _, _, v_Tree_shape, propB_ok (c.fact 31), b_Tree_shape⟩ ⟨He.cls_ok (c.fact 21), _, _, _, v_Tree_walk, propB_ok (c.fact 32), b_Tree_walk⟩ ⟨He.cls_ok (c.fact 21), _, _, _, v_Tree_names, propB_ok (c.fact 33), b_Tree_names⟩ (He.free_ok X G (c.fact 15)) ⟨He.cls_ok (c.fact 21), _, _, v_Tree__len_, He.meth_ok (c.fact 34), b_Tree__len_⟩ (He.free_ok X G (c.fact 3)) ⟨He.cls_ok (c.fact 21), _, _, v_Tree__contains_, He.meth_ok (c.fact 35), b_Tree__contains_⟩ ⟨He.cls_ok (c.fact 21), _, _, v_Tree_parent, He.meth_ok (c.fact 36), b_Tree_parent⟩
  have v_l_equal_right : FnOk P w K mg base (L2.CX P w) 43 _ fd_l_equal_right ["_law_tree", "_law_figure", "_law_other"] (spOf (tabK nm K) r_l_equal_right) := w_l_equal_right F_l_equal_right ⟨He.cls_ok (c.fact 21), _, _, v_Tree__eq_, He.meth_ok (c.fact 37), b_Tree__eq_⟩ (eqB_ok (nm := nm) (C := 20) (c.fact 38)) ⟨He.cls_ok (c.fact 21), _, _, v_Tree__init_, He.meth_ok (c.fact 39), b_Tree__init_⟩ ⟨(He.glo_ok X G (c.fact 26)), _, _, _, dv_Tree__init_ K, v_Tree__init_, He.mkr_ok (c.fact 40), bindG_dfl (dds := [.tup []]) (dv := dv_Tree__init_ K) F_Tree__init_ (by intro z; cases z) rfl (by simp) (by decide) (by simp) fun _ _ _ _ _ _ _ us ws zs du l1 l2 e => match us, ws, l1, l2, e with | [_, _], [], _, _, rfl => ⟨_, rfl, rfl⟩, fun d hd own hp => by simp at hd⟩ ⟨He.cls_ok (c.fact 21), _, _, _, v_Tree_walk, propB_ok (c.fact 32), b_Tree_walk⟩ ⟨He.cls_ok (c.fact 21), _, _, _, v_Tree_names, propB_ok (c.fact 33), b_Tree_names⟩ (He.free_ok X G (c.fact 7))
  have v_law : FnOk P w K mg base (L2.CX P w) 44 _ fd_law ["_law_script"] (spOf (tabK nm K) r_law) := w_law F_law (He.free_ok X G (c.fact 11)) (He.free_ok X G (c.fact 3)) (He.free_ok X G (c.fact 42)) (He.free_ok X G (c.fact 43)) ⟨_, _, v_l_begun, (He.glo_ok X G (c.fact 44)), F_l_begun.kp, b_l_begun⟩ ⟨_, _, v_l_names, (He.glo_ok X G (c.fact 45)), F_l_names.kp, b_l_names⟩ ⟨_, _, v_l_take, (He.glo_ok X G (c.fact 10)), F_l_take.kp, b_l_take⟩ ⟨_, _, v_l_walk, (He.glo_ok X G (c.fact 46)), F_l_walk.kp, b_l_walk⟩ ⟨He.cls_ok (c.fact 21), _, _, v_Tree__init_, He.meth_ok (c.fact 39), b_Tree__init_⟩ ⟨(He.glo_ok X G (c.fact 26)), _, _, _, dv_Tree__init_ K, v_Tree__init_, He.mkr_ok (c.fact 40), bindG_dfl (dds := [.tup []]) (dv := dv_Tree__init_ K) F_Tree__init_ (by intro z; cases z) rfl (by simp) (by decide) (by simp) fun _ _ _ _ _ _ _ us ws zs du l1 l2 e => match us, ws, l1, l2, e with | [_, _], [], _, _, rfl => ⟨_, rfl, rfl⟩, fun d hd own hp => by simp at hd⟩ ⟨_, _, v_l_shape, (He.glo_ok X G (c.fact 30)), F_l_shape.kp, b_l_shape⟩ ⟨_, _, v_l_parents, (He.glo_ok X G (c.fact 47)), F_l_parents.kp, b_l_parents⟩ ⟨_, _, v_l_values_right, (He.glo_ok X G (c.fact 48)), F_l_values_right.kp, b_l_values_right⟩ ⟨_, _, v_l_lists_right, (He.glo_ok X G (c.fact 49)), F_l_lists_right.kp, b_l_lists_right⟩ ⟨_, _, v_l_equal_right, (He.glo_ok X G (c.fact 50)), F_l_equal_right.kp, b_l_equal_right⟩ (Classical.choose_spec (conB_ok X G (c.fact 51))) ⟨He.cls_ok (c.fact 21), _, _, v_Tree__eq_, He.meth_ok (c.fact 37), b_Tree__eq_⟩ (eqB_ok (nm := nm) (C := 20) (c.fact 38)) ⟨(He.glo_ok X G (c.fact 26)), _, _, _, dv_Tree__init_ K, v_Tree__init_, He.mkr_ok (c.fact 40), bindG_dfl (dds := [.tup []]) (dv := dv_Tree__init_ K) F_Tree__init_ (by intro z; cases z) rfl (by simp) (by decide) (by simp) fun _ _ _ _ _ _ _ us ws zs du l1 l2 e => match us, ws, l1, l2, e with | [_], [], _, _, rfl => ⟨_, rfl, rfl⟩, fun d hd own hp => by simp at hd; subst hd; exact d_tup0 (c.fact 41)⟩ ⟨He.cls_ok (c.fact 21), _, _, _, v_Tree_walk, propB_ok (c.fact 32), b_Tree_walk⟩ ⟨He.cls_ok (c.fact 21), _, _, v_Tree_roots, He.meth_ok (c.fact 28), b_Tree_roots⟩ ⟨(He.glo_ok X G (c.fact 26)), _, _, _, dv_Tree__init_ K, v_Tree__init_, He.mkr_ok (c.fact 40), bindG_dfl (dds := [.tup []]) (dv := dv_Tree__init_ K) F_Tree__init_ (by intro z; cases z) rfl (by simp) (by decide) (by simp) fun _ _ _ _ _ _ _ us ws zs du l1 l2 e => match us, ws, l1, l2, e with | [_], [_], _, _, rfl => ⟨_, rfl, rfl⟩, fun d hd own hp => by simp at hd⟩
  exact v_law
end K01
open PySem PySem.W PySem.Calls PyProof.Rows PV
theorem PySem.Challenge.cw_lastnumbers_k01_trees_of_shapes_holds : PySem.Challenge.rw_lastnumbers_k01_trees_of_shapes.Holds := by
  w_on; o_law
  refine HandSHeadRun.head_any (r := OpenLaw.row PySem.Challenge.rw_lastnumbers_k01_trees_of_shapes) (q := view (OpenLaw.row PySem.Challenge.rw_lastnumbers_k01_trees_of_shapes).prog [27]) (H := K01.hk) (ob := K01.ob) (M := 6000) (loose := K01.lo) (d := HandSHeadRun.topDef (OpenLaw.row PySem.Challenge.rw_lastnumbers_k01_trees_of_shapes).prog 27) (kwd := []) K01.ob_eq
    (by kernel_rfl) (fun s => by kernel_rfl) K01.run (by kernel_rfl) (by kernel_rfl) (by kernel_rfl) (by rfl) (by first | assumption | decide +kernel) (by decide +kernel) ⟨rfl, rfl, rfl, rfl, rfl, by decide +kernel⟩ ?hw ?hc
  case hw => w_witness2
  case hc =>
    refine PV.walk_pv (l := PySem.Challenge.rw_lastnumbers_k01_trees_of_shapes) (n := 63) (k := 44) (x := "_law_script") rfl (by decide) (by kernel_rfl) ⟨rfl, by decide, by decide⟩ ?F
    intro w mg fa h Y G hmg0
    obtain ⟨K, KX, c⟩ := Y
    have hmg : mg ("law" : PySem.Str) = some (.ref fa) := by
      have e : (HandSHeadRun.topDef (OpenLaw.row PySem.Challenge.rw_lastnumbers_k01_trees_of_shapes).prog 27).name = ("law" : PySem.Str) := by kernel_rfl
      rw [← e]
      exact hmg0
    obtain ⟨fd, hb, hF⟩ := K01.facts (P := (PySem.Challenge.rw_lastnumbers_k01_trees_of_shapes).prog) (w := w) KX G hmg c
    exact ⟨K, fd, _, KX, hb, fun H a ns hl hO hS => PV.law_sp hO hS (K01.pure_law ns hl), hF⟩
