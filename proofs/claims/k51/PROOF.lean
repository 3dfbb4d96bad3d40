import PyProof.Rows.All
import Wide.All
import OpenK.AllK
import Wide.FinOn
import KE.KStateDown
import HandS.Strs
import HandS.IsInst
import HandS.SetFor
import HandS.SortInts
import KE.KDictZip
import PyProof.ListNew
import HandS.Iter
import HandS.TupMul
import HandS.TupAny
import HandS.ForMost
import HandS.ForExc
import HandS.Wide
import HandS.Deep
import HandS.Flow
import HandS.More
import HandS.Style
import HandS.HeadHook1
import HandS.Lambda
import HandS.SetKeys
import HandS.HeadHook4
import HandS.HotCalls
import HandS.ExcIs
import HandS.Small
import HandS.SortKw
import KE.KMinKey
import KE.GoesMore
import HandS.Text
import HandS.StrMore
import HandS.RaiseMore
import HandS.FStr
import HandS.Dict
import PyProof.AttrMissHeap
import HandS.ReplaceLit
import HandS.Defaults
import HandS.HeadEnd
import HandS.EndTab
import HandS.Head0
import HandS.Head1
import HandS.Head2
import HandS.HeadHook2
import HandS.HeadHook3
import KE.KNestM
import KE.KExcIs
import HandS.ExcValue
import PySem.Challenge.RW_formwords_k51_whole_tables_and_rules
set_option Elab.async false
set_option linter.all false
set_option maxRecDepth 100000
set_option maxHeartbeats 4000000
namespace FW
open PySem PySem.Spec L2 PyProof.Rows
/-- how many different ones: those met so far, the rest, the number so far -/
def dd : List Str → List Str → Nat → Nat
  | _, [], n => n
  | done, x :: r, n => dd (done ++ [x]) r (if (done.any fun y => y == x) = true then n else n + 1)
section
variable {prog : Program} {w : World} {A : Around} {R : Result → Shared → Prop} {I : Addr} {fp wr : List Addr} {G : Array GenState → Array GenState → Prop} {n : Nat} {P : Nat → Value → Prop} {St : Nat → Shared → Prop}
theorem loop_strs (W : WalksS prog w A.in1 I fp wr G n P St) (S : Addr) (hS0 : S ∉ fp) : ∀ (rest done : List Str) (k : Nat) (sh : Shared),
      done.length + rest.length = n → n + 1 < scanBound → k ≤ done.length → (∀ i v, P i v → ∃ t, v = .str ((done ++ rest).getD i Str.empty) t) → St done.length sh →
      sh.heap.SetOf (PySem.strKind prog w) S (fun z => done.any fun y => y == z) k →
      (∀ sh', Moved (S :: wr) G sh sh' → sh'.heap.SetOf (PySem.strKind prog w) S (fun z => (done ++ rest).any fun y => y == z) (dd done rest k) → R (.ok (.ret .none)) sh') →
      codeAny (model prog w) A (.builtin "set.update.loop" ⟨[.ref S, .ref I], []⟩) R sh := by
  have nwr : S ∉ wr := fun q => hS0 (W.sub _ q)
  have up : ∀ b ∈ wr, b ∈ S :: wr := fun b q => List.mem_cons_of_mem _ q
  intro rest
  induction rest with
  | nil =>
    intro done k sh hl hb hk hP hst hS hR
    simp only [List.length_nil, Nat.add_zero] at hl
    subst hl
    refine codeAny_builtin F.entry_set_update_loop ?_
    rw [Around.under_plainId F.plain_set_update_loop _]
    refine wpAny_bind (W.done sh _ _ hst fun sh' mv => wpAny_pure (hR sh' (mv.mono up) ?_))
    obtain ⟨o, es, ep, t, ho, more⟩ := hS
    rw [List.append_nil]
    exact ⟨o, es, ep, t, mv.heap S _ nwr ho, more⟩
  | cons x rest ih =>
    intro done k sh hl hb hk hP hst hS hR
    simp only [List.length_cons] at hl
    refine codeAny_builtin F.entry_set_update_loop ?_
    rw [Around.under_plainId F.plain_set_update_loop _]
    refine wpAny_bind (W.item done.length sh _ _ (by omega) hst fun v sh' hv hst' mv => ?_)
    obtain ⟨t, rfl⟩ := hP _ v hv
    have ex : (done ++ x :: rest).getD done.length Str.empty = x := by simp
    rw [ex]
    have hS' : sh'.heap.SetOf (PySem.strKind prog w) S (fun z => done.any fun y => y == z) k := by
      obtain ⟨o, es, ep, tb, ho, more⟩ := hS
      exact ⟨o, es, ep, tb, mv.heap S _ nwr ho, more⟩
    refine wpAny_bind (wpAny_holding ?_)
    unfold setAdd
    refine wpAny_holding (wpAny_bind ((PySem.strKind prog w).pyHash (k := x) (strKind_is _ _ _ _) ?_))
    refine wpAny_setAddHashed_of (knd := PySem.strKind prog w) (s := { sh' with toks := sh'.toks + 1 }) (strKind_is _ _ _ _) rfl hS' (by omega) fun h' same hS2 => ?_
    have hS3 : h'.SetOf (PySem.strKind prog w) S (fun z => (done ++ [x]).any fun y => y == z) (if (done.any fun y => y == x) = true then k else k + 1) := by
      refine SetOf_congr hS2 (fun z => ?_) rfl
      rw [List.any_append]
      congr 1
      by_cases q : z = x
      · subst q; simp
      · have : (x == z) = false := beq_eq_false_iff_ne.mpr fun e => q e.symm
        simp [this, q]
    have el : (done ++ [x]).length = done.length + 1 := by simp
    have ea : done ++ [x] ++ rest = done ++ x :: rest := by simp
    refine wpAny_pure ⟨plainId_quiet F.plain_set_update_loop _, ih (done ++ [x]) _ _ (by rw [el]; omega) hb (by rw [el]; split <;> omega) (by rw [ea]; exact hP) ?_ hS3 fun sh'' mv'' hS'' => ?_⟩
    · rw [el]
      refine W.frame _ sh' _ _ hst' (Nat.le_succ _) fun b q o e => ?_
      rw [same.2 b fun z => hS0 (z ▸ q)]; exact e
    · rw [ea] at hS''
      refine hR sh'' (Moved.trans W.gtrans ((mv.mono up).then_heap (Nat.le_succ _) fun b o q e => ?_) mv'') hS''
      rw [same.2 b fun z => q (z ▸ List.mem_cons_self)]; exact e
end
abbrev newSet (led : Bool) : Obj := { cls := .type "set", dict := none, data := .set #[] 0 (.fresh 0 0 led) }
section
variable {prog : Program} {w : World} {A : Around} {E : Value → Shared → Prop} {sh : Shared}
/-- set of a list of texts -/
theorem call_set_strs {l : Addr} {items : Array Value} {xs : List Str} {Q : Value → Shared → Prop} (hh : A.handled = none) (hl : sh.heap.IsList l items) (hi : StrsAre items.toList xs) (hb : xs.length + 1 < scanBound)
    (fin : ∀ (hp : Heap) (tk : Nat), hp.SetOf (PySem.strKind prog w) sh.heap.objs.size (fun z => xs.any fun y => y == z) (dd [] xs 0) → (∀ b o, b < sh.heap.objs.size → sh.heap.get? b = some o → hp.get? b = some o) → Q (.ref sh.heap.objs.size) { sh with heap := hp, toks := tk }) :
    wpAny (model prog w) A (call (.type "set") [.ref l]) Q E sh := by
  obtain ⟨_, _, m1⟩ := PySem.F.called_set.mro
  have m2 := PySem.F.called_set.made
  have m3 := PySem.F.called_set.sub
  refine wpAny_call (codeAny_of_tree ?_)
  show wpAny _ _ (callAny (.type "set") _) _ _ _
  refine wpAny_pure ⟨Code.quiet_builtin _ (by decide +kernel), codeAny_builtin PySem.F.entry_type_call ?_⟩
  rw [Around.under_plain (weight_type_call_type "set" [.ref l] []) rfl]
  have m4 := PySem.F.called_set.notType
  have m5 := PySem.F.called_set.canCreate
  have m6 := PySem.F.typeCall_set_1 (.ref l)
  repeat (any_goals (first | wp_step | assumption))
  refine codeAny_mono (code_set_new_1 (.ref l) (E := E) (Q₁ := fun ob st => ∃ led : Bool, ob = .ref sh.heap.objs.size ∧ st = { sh with heap := sh.heap.push (newSet led) }) fun led => ⟨led, rfl, rfl⟩) fun r st hr => ?_
  cases r with
  | error e => exact hr
  | ok fl =>
    cases fl with
    | ret ob =>
      obtain ⟨led, rfl, rfl⟩ := hr
      have g0 : (sh.heap.push (newSet led)).get? sh.heap.objs.size = some (newSet led) := Heap.get?_push_size _ rfl
      have g1 : Shared.TypeIs { sh with heap := sh.heap.push (newSet led) } (.ref sh.heap.objs.size) "set" := ⟨_, g0, rfl⟩
      have m7 := PySem.F.called_set.init.lookup
      have m8 := PySem.F.called_set.init.bind (.ref sh.heap.objs.size)
      repeat (any_goals (first | wp_step | assumption))
      refine codeAny_mono (codeAny_call_builtin (R := wants (fun v st => v = .none ∧ ∃ hp tk, st = { sh with heap := hp, toks := tk } ∧
          hp.SetOf (PySem.strKind prog w) sh.heap.objs.size (fun z => xs.any fun y => y == z) (dd [] xs 0) ∧ (∀ b o, b < sh.heap.objs.size → sh.heap.get? b = some o → hp.get? b = some o)) E) PySem.F.called_set.init.plain PySem.F.entry_set_init (check_set_init_1 g1 ?_)) fun r2 st2 hr2 => ?_
      · obtain ⟨⟨oc, od, dt, osl⟩, ho, hc, nl, hdt⟩ := hl
        simp only at hc hdt
        subst hc hdt
        have ho' : (sh.heap.push (newSet led)).get? l = some ⟨.type "list", od, .seq items nl, osl⟩ := Heap.get?_push_of_some _ ho
        have n1 := PySem.F.sub_list_set
        have n2 := PySem.F.sub_list_frozenset
        have n3 : (Value.type "list" == Value.type "dict") = false := by decide
        have il : (sh.heap.push (newSet led)).IsList l items := ⟨_, ho', rfl, nl, rfl⟩
        unfold Builtin.«set.__init__» noKeywords Builtin.Frozenset.updateFrom
        generalize hIt : pyIter = It'
        wp_walk
        subst hIt
        refine wpAny_pyIter_list il (wpAny_bind (wpAny_runValue ?_))
        have ll : l < sh.heap.objs.size := Heap.lt_size ho
        have h3 : A.in1.in1.in1.handled = none := by simp [hh]
        have es : (sh.heap.push (newSet led)).objs.size = sh.heap.objs.size + 1 := Heap.size_push ..
        have nI : l ≠ (sh.heap.push (newSet led)).objs.size := fun q => Nat.lt_irrefl _ (show l < l from Nat.lt_trans (Nat.lt_of_lt_of_le ll (Nat.le_refl _)) (by rw [q] at ll; exact absurd ll (by rw [es]; exact Nat.not_lt.mpr (Nat.le_succ _))))
        have nS : sh.heap.objs.size ∉ [(sh.heap.push (newSet led)).objs.size, l] := by
          intro q
          rcases List.mem_cons.mp q with q | q
          · rw [es] at q
            exact Nat.ne_of_lt (Nat.lt_succ_self _) q
          · exact Nat.ne_of_gt ll (List.mem_singleton.mp q)
        have hz : xs.length = items.size := by rw [← StrsAre.len_eq hi, Array.length_toList]
        have at' : ∀ (i : Nat) (v : Value), items[i]? = some v → ∃ t, v = .str (([] ++ xs).getD i Str.empty) t := fun i v hv => SS.strs_at hi i v (by rw [Array.getElem?_toList]; exact hv)
        refine loop_strs ((Walks.list h3 _ l nI items).toS) sh.heap.objs.size nS xs [] 0 _ (by simpa using hz) (by omega) (Nat.le_refl _) at' ⟨⟨_, Heap.get?_push_size _ rfl, rfl, rfl⟩, il.push _⟩ ?_ fun st' mv hS' => ?_
        · have g2 : ((sh.heap.push (newSet led)).push { cls := .type "list_iterator", data := .fields #[.ref l, .int 0 0] }).get? sh.heap.objs.size = some (newSet led) := Heap.get?_push_of_some _ g0
          exact SetOf_congr ((setObjOf_fresh (knd := PySem.strKind prog w) led).setOf g2 (by unfold scanBound; omega)) (fun _ => rfl) rfl
        · obtain ⟨h', g', d', tk', os'⟩ := st'
          obtain rfl : g' = sh.gens := mv.gens
          obtain rfl : d' = sh.drawn := mv.drawn
          obtain rfl : os' = sh.os := mv.os
          show wpAny _ _ _ _ _ _
          refine wpAny_pure ?_
          show wpAny _ _ (ret Value.none) _ _ _
          refine wpAny_pure ⟨rfl, h', tk', rfl, hS', fun b o q e => ?_⟩
          refine mv.heap b o ?_ (Heap.get?_push_of_some _ (Heap.get?_push_of_some _ e))
          intro q'
          rcases List.mem_cons.mp q' with q' | q'
          · exact Nat.ne_of_lt q q'
          · have q2 := List.mem_singleton.mp q'
            rw [es] at q2
            exact Nat.ne_of_lt (Nat.lt_succ_of_lt q) q2
      · cases r2 with
        | error e => exact hr2
        | ok fl2 =>
          cases fl2 with
          | ret r =>
            obtain ⟨rfl, hp, tk, rfl, k1, k2⟩ := hr2
            repeat (any_goals (first | wp_step | assumption))
            exact fin _ _ k1 k2
          | _ => exact hr2.elim
    | _ => exact hr.elim
end
end FW

namespace FW
open PySem PySem.Spec L2 PyProof.Rows
abbrev newSetL (w : World) : Obj := { cls := .type "set", dict := none, data := .set #[] 0 (.fresh 0 0 (!w.params.followText "set-order")) }
section
variable {prog : Program} {w : World} {A : Around} {E : Value → Shared → Prop} {sh : Shared}
/-- set of a list of ints -/
theorem call_set_ints {l : Addr} {items : Array Value} {xs : List Int} {Q : Value → Shared → Prop} (hh : A.handled = none) (hl : sh.heap.IsList l items) (hi : IntsAre items.toList xs) (hb : xs.length + 1 < scanBound)
    (fin : ∀ (hp : Heap) (tk c : Nat), SetR w hp sh.heap.objs.size (fun j => decide (j ∈ xs)) c → c ≤ xs.length → (∀ b o, b < sh.heap.objs.size → sh.heap.get? b = some o → hp.get? b = some o) → Q (.ref sh.heap.objs.size) { sh with heap := hp, toks := tk }) :
    wpAny (model prog w) A (call (.type "set") [.ref l]) Q E sh := by
  obtain ⟨_, _, m1⟩ := PySem.F.called_set.mro
  have m2 := PySem.F.called_set.made
  have m3 := PySem.F.called_set.sub
  refine wpAny_call (codeAny_of_tree ?_)
  show wpAny _ _ (callAny (.type "set") _) _ _ _
  refine wpAny_pure ⟨Code.quiet_builtin _ (by decide +kernel), codeAny_builtin PySem.F.entry_type_call ?_⟩
  rw [Around.under_plain (weight_type_call_type "set" [.ref l] []) rfl]
  have m4 := PySem.F.called_set.notType
  have m5 := PySem.F.called_set.canCreate
  have m6 := PySem.F.typeCall_set_1 (.ref l)
  repeat (any_goals (first | wp_step | assumption))
  refine codeAny_mono (code_set_led1 (.ref l) (E := E) (Q₁ := fun ob st => ob = .ref sh.heap.objs.size ∧ st = { sh with heap := sh.heap.push (newSetL w) }) ⟨rfl, rfl⟩) fun r st hr => ?_
  cases r with
  | error e => exact hr
  | ok fl =>
    cases fl with
    | ret ob =>
      obtain ⟨rfl, rfl⟩ := hr
      have g0 : (sh.heap.push (newSetL w)).get? sh.heap.objs.size = some (newSetL w) := Heap.get?_push_size _ rfl
      have g1 : Shared.TypeIs { sh with heap := sh.heap.push (newSetL w) } (.ref sh.heap.objs.size) "set" := ⟨_, g0, rfl⟩
      have m7 := PySem.F.called_set.init.lookup
      have m8 := PySem.F.called_set.init.bind (.ref sh.heap.objs.size)
      repeat (any_goals (first | wp_step | assumption))
      refine codeAny_mono (codeAny_call_builtin (R := wants (fun v st => v = .none ∧ ∃ hp tk c, st = { sh with heap := hp, toks := tk } ∧
          SetR w hp sh.heap.objs.size (fun j => decide (j ∈ xs)) c ∧ c ≤ xs.length ∧ (∀ b o, b < sh.heap.objs.size → sh.heap.get? b = some o → hp.get? b = some o)) E) PySem.F.called_set.init.plain PySem.F.entry_set_init (check_set_init_1 g1 ?_)) fun r2 st2 hr2 => ?_
      · obtain ⟨⟨oc, od, dt, osl⟩, ho, hc, nl, hdt⟩ := hl
        simp only at hc hdt
        subst hc hdt
        have ho' : (sh.heap.push (newSetL w)).get? l = some ⟨.type "list", od, .seq items nl, osl⟩ := Heap.get?_push_of_some _ ho
        have n1 := PySem.F.sub_list_set
        have n2 := PySem.F.sub_list_frozenset
        have n3 : (Value.type "list" == Value.type "dict") = false := by decide
        have il : (sh.heap.push (newSetL w)).IsList l items := ⟨_, ho', rfl, nl, rfl⟩
        unfold Builtin.«set.__init__» noKeywords Builtin.Frozenset.updateFrom
        generalize hIt : pyIter = It'
        wp_walk
        subst hIt
        refine wpAny_pyIter_list il (wpAny_bind (wpAny_runValue ?_))
        have ll : l < sh.heap.objs.size := Heap.lt_size ho
        have h3 : A.in1.in1.in1.handled = none := by simp [hh]
        have es : (sh.heap.push (newSetL w)).objs.size = sh.heap.objs.size + 1 := Heap.size_push ..
        have nI : l ≠ (sh.heap.push (newSetL w)).objs.size := fun q => Nat.lt_irrefl _ (show l < l from Nat.lt_trans (Nat.lt_of_lt_of_le ll (Nat.le_refl _)) (by rw [q] at ll; exact absurd ll (by rw [es]; exact Nat.not_lt.mpr (Nat.le_succ _))))
        have nS : sh.heap.objs.size ∉ [(sh.heap.push (newSetL w)).objs.size, l] := by
          intro q
          rcases List.mem_cons.mp q with q | q
          · rw [es] at q
            exact Nat.ne_of_lt (Nat.lt_succ_self _) q
          · exact Nat.ne_of_gt ll (List.mem_singleton.mp q)
        have hz : items.size = xs.length := by rw [← IntsAre.length hi, Array.length_toList]
        have at' : ∀ (i : Nat) (v : Value), items[i]? = some v → ∃ k t, xs[i]? = some k ∧ v = .int k t := fun i v hv => by
          have hlt : i < xs.length := by rw [← hz]; exact (Array.getElem?_eq_some_iff.mp hv).1
          obtain ⟨t, e⟩ := PyProof.Rows.IntsAre.int_at hi i v (by rw [Array.getElem?_toList]; exact hv)
          refine ⟨xs[i], t, List.getElem?_eq_getElem hlt, ?_⟩
          rw [e, List.getD_eq_getElem?_getD, List.getElem?_eq_getElem hlt]
          rfl
        refine set_update_ints ((Walks.list h3 _ l nI items).toS) sh.heap.objs.size nS xs hz hb at' (items.size - 0) 0 _ rfl (Nat.zero_le _) ⟨⟨_, Heap.get?_push_size _ rfl, rfl, rfl⟩, il.push _⟩ ?_ fun st' c' mv hc' hS' => ?_
        · have g2 : ((sh.heap.push (newSetL w)).push { cls := .type "list_iterator", data := .fields #[.ref l, .int 0 0] }).get? sh.heap.objs.size = some (newSetL w) := Heap.get?_push_of_some _ g0
          exact ⟨0, Nat.le_refl 0, setR_new_at g2⟩
        · obtain ⟨h', g', d', tk', os'⟩ := st'
          obtain rfl : g' = sh.gens := mv.gens
          obtain rfl : d' = sh.drawn := mv.drawn
          obtain rfl : os' = sh.os := mv.os
          show wpAny _ _ _ _ _ _
          refine wpAny_pure ?_
          show wpAny _ _ (ret Value.none) _ _ _
          refine wpAny_pure ⟨rfl, h', tk', c', rfl, hS', by rw [← hz]; exact hc', fun b o q e => ?_⟩
          refine mv.heap b o ?_ (Heap.get?_push_of_some _ (Heap.get?_push_of_some _ e))
          intro q'
          rcases List.mem_cons.mp q' with q' | q'
          · exact Nat.ne_of_lt q q'
          · have q2 := List.mem_singleton.mp q'
            rw [es] at q2
            exact Nat.ne_of_lt (Nat.lt_succ_of_lt q) q2
      · cases r2 with
        | error e => exact hr2
        | ok fl2 =>
          cases fl2 with
          | ret r =>
            obtain ⟨rfl, hp, tk, c, rfl, k1, k3, k2⟩ := hr2
            repeat (any_goals (first | wp_step | assumption))
            exact fin _ _ c k1 k3 k2
          | _ => exact hr2.elim
    | _ => exact hr.elim
end
section
variable {prog : Program} {w : World} {A : Around} {E : Value → Shared → Prop} {sh : Shared}
theorem sorted_setN {a : Addr} {S : Int → Bool} {n : Nat} {Q : Value → Shared → Prop} (R : SetR w sh.heap a S n) (hh : A.handled = none)
    (fin : ∀ st p (out : Array Value) (c : Nat) (ns : List Int), (∀ b o, sh.heap.get? b = some o → st.heap.get? b = some o) → st.gens = sh.gens → st.os = sh.os → sh.heap.objs.size ≤ p →
      st.heap.get? p = some (seqObj "list" out c) → IntsAre out.toList ns → ns.Pairwise (· < ·) → (∀ k, k ∈ ns ↔ S k = true) → Q (.ref p) st) :
    wpAny (model prog w) A (call (.builtin "sorted") [.ref a]) Q E sh := by
  obtain ⟨o, es, ep, t, ho, hex, hd, g, nd, hm, hb, hf, hn, hr, hl⟩ := R
  refine Calls.call_function_entry kind_sorted plain_sorted entry_sorted (args_sorted1 _) ?_
  unfold Builtin.«sorted»
  refine wpAny_bind (m := checkCount "sorted" 1 1 _) (wpAny_pure ?_)
  refine wpAny_bind (collect_set (A := A.in1) hh ⟨o, ho, hex.1, hd⟩ hf hb hr hl fun s1 vs k1 hz g1 o1 pm => ?_)
  have hvl : vs.length = n := by rw [pm.length_eq, List.length_map, Array.length_toList]; exact hn
  have vsz : vs.length ≤ sizeLine := by
    rw [hvl, ← hn]
    have : scanBound = 4096 := rfl
    unfold sizeLine
    omega
  have hI : IntsAre vs (vs.map Builtin.Re.reRawOf) := ints_of vs fun v hv => by
    obtain ⟨e, he, q⟩ := List.mem_map.mp (pm.mem_iff.mp hv)
    obtain ⟨k, tk, h1, _⟩ := g e he
    exact ⟨k, tk, by rw [← q]; exact h1⟩
  have pk : (vs.map Builtin.Re.reRawOf).Perm (es.toList.map keyOf) := by
    have q := pm.map Builtin.Re.reRawOf
    rw [List.map_map] at q
    exact q
  refine wpAny_bind (wpAny_newList ?_ vsz)
  have hoL : (s1.heap.push (seqObj "list" vs.toArray 0)).get? s1.heap.objs.size = some (seqObj "list" vs.toArray 0) := Heap.get?_push_size _ rfl
  refine wpAny_bind (wpAny_holding (wpAny_call_entry slot_list_sort ⟨_, hoL, rfl⟩ entry_list_sort (SrtO.list_sort_ord SrtO.swo_int hoL vsz (fun h2 => SrtO.ints_sortable hI h2) fun out hs hb2 => ⟨_, rfl, ?_⟩) (args_list_sort _)))
  obtain ⟨a1, a2, a3⟩ := SrtO.ints_out hI hs hb2
  obtain ⟨c, hc⟩ := sortedHeap_at (vs := vs) (out := out.toArray) hoL
  have pn : (out.map SrtO.iv).Perm (es.toList.map keyOf) := a2.trans pk
  refine wpAny_pure ⟨_, rfl, fin _ s1.heap.objs.size out.toArray c (out.map SrtO.iv) (fun b u e => ?_) g1 o1 hz hc (by simpa using a1) (lt_of_le_nodup _ a3 (pn.nodup_iff.mpr nd)) (fun k => by rw [pn.mem_iff, ← hm k])⟩
  have q := k1 b u e
  have hlt := Heap.lt_size q
  show (sortedHeap (s1.heap.push (seqObj "list" vs.toArray 0)) s1.heap.objs.size vs out.toArray).get? b = some u
  rw [sortedHeap_old (Nat.ne_of_lt hlt) (by rw [size_push']; exact Nat.lt_succ_of_lt hlt)]
  exact Heap.get?_push_of_some _ q
end
end FW

namespace FW
open PySem PySem.Spec L2 PyProof.Rows
theorem zip_no_len : typeLookup (.type "zip") "__len__" = pure none := by rw [typeLookup_type, builtinLookup_eq_fast]; kernel_rfl
theorem zip_no_hint : typeLookup (.type "zip") "__length_hint__" = pure none := by rw [typeLookup_type, builtinLookup_eq_fast]; kernel_rfl
abbrev PairO (x y : Value) : Obj := { cls := .type "tuple", data := .seq #[x, y] }
/-- before turn i: the zip, its pairs so far -/
structure ZGo (z TI TO i1 i2 l1 l2 S B : Addr) (xs ys : Array Value) (i : Nat) (acc : Array Value) (ts : List Addr) (h : Heap) : Prop where
  ti : PySem.IsPair h TI (.ref i1) (.ref i2)
  a1 : h.IsListIter i1 l1 i
  a2 : h.IsListIter i2 l2 i
  b1 : h.IsList l1 xs
  b2 : h.IsList l2 ys
  zz : (IsZip h z TI TO .none ∧ ∃ a b, PySem.IsPair h TO a b) ∨ ∃ T f oT, IsZipHeld h z TI TO T f ∧ h.get? T = some oT ∧ B ≤ T
  le : B ≤ h.objs.size
  tl : ts.length = i
  ac : acc.toList = ts.map Value.ref
  nd : ts.Nodup
  tB : ∀ t ∈ ts, B ≤ t
  pr : ∀ (j : Nat) (t : Addr), ts[j]? = some t → ∃ x y, xs[j]? = some x ∧ ys[j]? = some y ∧ h.get? t = some (PairO x y)
section
variable {prog : Program} {w : World} {A : Around} {R : Result → Shared → Prop} {z TI TO i1 i2 l1 l2 S B : Addr} {xs ys : Array Value}
theorem ZGo.at {i : Nat} {acc : Array Value} {ts : List Addr} {h h' : Heap} (g : ZGo z TI TO i1 i2 l1 l2 S B xs ys i acc ts h) (sz : h'.objs.size = h.objs.size) (k : ∀ b o, b ≠ S → h.get? b = some o → h'.get? b = some o) (lt : S < B) (n1 : TI ≠ S) (n2 : i1 ≠ S) (n3 : i2 ≠ S) (n4 : l1 ≠ S) (n5 : l2 ≠ S) (n6 : z ≠ S) (n7 : TO ≠ S) :
    ZGo z TI TO i1 i2 l1 l2 S B xs ys i acc ts h' := by
  have nB : ∀ t, B ≤ t → t ≠ S := fun t ht e => by rw [e] at ht; exact absurd (Nat.lt_of_lt_of_le lt ht) (Nat.lt_irrefl _)
  refine ⟨k _ _ n1 g.ti, g.a1.at fun o e => k _ o n2 e, g.a2.at fun o e => k _ o n3 e, g.b1.at fun o e => k _ o n4 e, g.b2.at fun o e => k _ o n5 e, ?_, by rw [sz]; exact g.le, g.tl, g.ac, g.nd, g.tB, fun j t e => ?_⟩
  · rcases g.zz with ⟨q, a, b, q2⟩ | ⟨T, f, oT, q, q2, q3⟩
    · exact .inl ⟨k _ _ n6 q, a, b, k _ _ n7 q2⟩
    · exact .inr ⟨T, f, oT, k _ _ n6 q, k _ _ (nB T q3) q2, q3⟩
  · obtain ⟨x, y, e1, e2, e3⟩ := g.pr j t e
    exact ⟨x, y, e1, e2, k _ _ (nB t (g.tB t (List.mem_of_getElem? e))) e3⟩
/-- a turn of the zip -/
theorem zgo_item {E : Value → Shared → Prop} {i : Nat} {acc : Array Value} {ts : List Addr} {sh : Shared} {Q : Option Value → Shared → Prop} (D : ZipApart z TI TO i1 i2 l1 l2) (lz : z < B) (lTO : TO < B) (l1' : i1 < B) (l2' : i2 < B) (g : ZGo z TI TO i1 i2 l1 l2 S B xs ys i acc ts sh.heap) (hx : i < xs.size) (hy : i < ys.size)
    (fin : ∀ h', ZGo z TI TO i1 i2 l1 l2 S B xs ys (i + 1) (acc.push (.ref sh.heap.objs.size)) (ts ++ [sh.heap.objs.size]) h' → (∀ b o, b ≠ z → b ≠ TO → b ≠ i1 → b ≠ i2 → sh.heap.get? b = some o → h'.get? b = some o) → Q (some (.ref sh.heap.objs.size)) { sh with heap := h' }) :
    wpAny (model prog w) A (pyNext (.ref z)) Q E sh := by
  have ex := Array.getElem?_eq_getElem hx
  have ey := Array.getElem?_eq_getElem hy
  have nB : ∀ t, B ≤ t → t ≠ z ∧ t ≠ TO ∧ t ≠ i1 ∧ t ≠ i2 := fun t ht =>
    ⟨Nat.ne_of_gt (Nat.lt_of_lt_of_le lz ht), Nat.ne_of_gt (Nat.lt_of_lt_of_le lTO ht), Nat.ne_of_gt (Nat.lt_of_lt_of_le l1' ht), Nat.ne_of_gt (Nat.lt_of_lt_of_le l2' ht)⟩
  have step : ∀ h', PySem.IsPair h' TI (.ref i1) (.ref i2) → h'.IsListIter i1 l1 (i + 1) → h'.IsListIter i2 l2 (i + 1) → h'.IsList l1 xs → h'.IsList l2 ys → (∃ T f oT, IsZipHeld h' z TI TO T f ∧ h'.get? T = some oT ∧ B ≤ T) →
      PySem.IsPair h' sh.heap.objs.size xs[i] ys[i] → h'.objs.size = sh.heap.objs.size + 1 → (∀ t o, B ≤ t → sh.heap.get? t = some o → h'.get? t = some o) → ZGo z TI TO i1 i2 l1 l2 S B xs ys (i + 1) (acc.push (.ref sh.heap.objs.size)) (ts ++ [sh.heap.objs.size]) h' := fun h' q1 q2 q3 q4 q5 q6 q7 q8 q9 => by
    refine ⟨q1, q2, q3, q4, q5, .inr q6, by rw [q8]; exact Nat.le_succ_of_le g.le, by simp [g.tl], by simp [g.ac], ?_, fun t ht => ?_, fun j t e => ?_⟩
    · rw [List.nodup_append]
      refine ⟨g.nd, by simp, fun a ha b hb => ?_⟩
      rw [List.mem_singleton.mp hb]
      obtain ⟨j, hj, e⟩ := List.mem_iff_getElem.mp ha
      obtain ⟨x, y, _, _, e3⟩ := g.pr j a (by rw [List.getElem?_eq_getElem hj, e])
      exact Nat.ne_of_lt (Heap.lt_size e3)
    · rcases List.mem_append.mp ht with ht | ht
      · exact g.tB t ht
      · rw [List.mem_singleton.mp ht]; exact g.le
    · by_cases hj : j < ts.length
      · rw [List.getElem?_append_left hj] at e
        obtain ⟨x, y, e1, e2, e3⟩ := g.pr j t e
        exact ⟨x, y, e1, e2, q9 t _ (g.tB t (List.mem_of_getElem? e)) e3⟩
      · have hl := (List.getElem?_eq_some_iff.mp e).1
        simp at hl
        have hj2 : j = ts.length := by omega
        subst hj2
        simp at e
        subst e
        rw [g.tl]
        exact ⟨_, _, ex, ey, q7⟩
  rcases g.zz with ⟨hz, a, b, hTO⟩ | ⟨T, f, oT, hz, hT, hB⟩
  · refine wpAny_pyNext_zip_item D hz g.ti hTO g.a1 g.a2 g.b1 g.b2 ex ey fun h' a1 a2 a3 a4 a5 a6 hk => ?_
    refine fin h' (step h' (hk _ _ D.TIz D.TITO D.TIi1 D.TIi2 g.ti) a3 a4 (g.b1.at fun o e => hk _ o D.l1z D.l1TO D.l1i1 D.l1i2 e) (g.b2.at fun o e => hk _ o D.l2z D.l2TO D.l2i1 D.l2i2 e) ⟨_, false, _, a1, a5, g.le⟩ a5 a6 fun t o ht e => ?_) hk
    obtain ⟨n1, n2, n3, n4⟩ := nB t ht
    exact hk t o n1 n2 n3 n4 e
  · refine wpAny_pyNext_zip_item_held D hz hT g.ti g.a1 g.a2 g.b1 g.b2 ex ey fun h' a1 a3 a4 a5 a6 hk => ?_
    obtain ⟨m1, m2, m3, m4⟩ := nB T hB
    refine fin h' (step h' (hk _ _ D.TIz D.TIi1 D.TIi2 g.ti) a3 a4 (g.b1.at fun o e => hk _ o D.l1z D.l1i1 D.l1i2 e) (g.b2.at fun o e => hk _ o D.l2z D.l2i1 D.l2i2 e) ⟨T, true, oT, a1, hk _ _ m1 m3 m4 hT, hB⟩ a5 a6 fun t o ht e => ?_) fun b o c1 _ c3 c4 e => hk b o c1 c3 c4 e
    obtain ⟨n1, n2, n3, n4⟩ := nB t ht
    exact hk t o n1 n3 n4 e
theorem zgo_end {E : Value → Shared → Prop} {i : Nat} {acc : Array Value} {ts : List Addr} {sh : Shared} {Q : Option Value → Shared → Prop} (hh : A.handled = none) (D : ZipApart z TI TO i1 i2 l1 l2) (g : ZGo z TI TO i1 i2 l1 l2 S B xs ys i acc ts sh.heap) (he : xs.size ≤ i ∨ ys.size ≤ i)
    (fin : ∀ h', (∀ b o, b ≠ z → b ≠ TO → b ≠ i1 → b ≠ i2 → sh.heap.get? b = some o → h'.get? b = some o) → Q none { sh with heap := h' }) : wpAny (model prog w) A (pyNext (.ref z)) Q E sh := by
  have hend : xs[i]? = none ∨ ys[i]? = none := he.imp (fun h => Array.getElem?_eq_none h) fun h => Array.getElem?_eq_none h
  rcases g.zz with ⟨hz, a, b, hTO⟩ | ⟨T, f, oT, hz, hT, hB⟩
  · exact wpAny_pyNext_zip_end hh D hz g.ti hTO g.a1 g.a2 g.b1 g.b2 hend fun h' hk => fin h' hk
  · exact wpAny_pyNext_zip_end_held hh D hz hT g.ti g.a1 g.a2 g.b1 g.b2 hend fun h' hk => fin h' fun b o c1 _ c3 c4 e => hk b o c1 c3 c4 e
/-- the loop that fills the list -/
theorem zgo_loop (hh : A.in1.handled = none) (D : ZipApart z TI TO i1 i2 l1 l2) (lz : z < B) (lTI : TI < B) (lTO : TO < B) (l1' : i1 < B) (l2' : i2 < B) (ll1 : l1 < B) (ll2 : l2 < B) (lS : S < B) (nS : TI ≠ S ∧ i1 ≠ S ∧ i2 ≠ S ∧ l1 ≠ S ∧ l2 ≠ S ∧ z ≠ S ∧ TO ≠ S) (hn : xs.size ≤ sizeLine) (res : Value) :
    ∀ (k i : Nat) (sh : Shared) (acc : Array Value) (ts : List Addr) (c : Nat), min xs.size ys.size - i = k → i ≤ min xs.size ys.size → ZGo z TI TO i1 i2 l1 l2 S B xs ys i acc ts sh.heap → sh.heap.get? S = some { cls := .type "list", dict := none, data := .seq acc c, slots := #[] } →
    (∀ (h' : Heap) (tk : Nat) (acc' : Array Value) (ts' : List Addr) (c' : Nat), ZGo z TI TO i1 i2 l1 l2 S B xs ys (min xs.size ys.size) acc' ts' h' ∨ (ts'.length = min xs.size ys.size ∧ acc'.toList = ts'.map Value.ref ∧ ts'.Nodup ∧ (∀ t ∈ ts', B ≤ t) ∧ ∀ (j : Nat) (t : Addr), ts'[j]? = some t → ∃ x y, xs[j]? = some x ∧ ys[j]? = some y ∧ h'.get? t = some (PairO x y)) →
      h'.get? S = some { cls := .type "list", dict := none, data := .seq acc' c', slots := #[] } → (∀ b o, b ≠ S → b ≠ z → b ≠ TO → b ≠ i1 → b ≠ i2 → sh.heap.get? b = some o → h'.get? b = some o) → R (.ok (.ret res)) { sh with heap := h', toks := tk }) →
    codeAny (model prog w) A (.builtin "list.extend.loop" ⟨[.ref S, .ref z, res], []⟩) R sh := by
  intro k
  induction k with
  | zero =>
    intro i sh acc ts c hk hi g hS fin
    have hin : i = min xs.size ys.size := by omega
    refine codeAny_builtin F.entry_extend_loop ?_
    rw [Around.under_plainId F.plain_extend_loop _]
    show wpAny _ A.in1 (pyNext (.ref z) >>= _) _ _ sh
    refine wpAny_bind (zgo_end hh D g (by omega) fun h' kp => ?_)
    refine wpAny_pure (fin h' sh.toks acc ts c (.inr ⟨by rw [g.tl, hin], g.ac, g.nd, g.tB, fun j t e => ?_⟩) (kp _ _ (Ne.symm nS.2.2.2.2.2.1) (Ne.symm nS.2.2.2.2.2.2) (Ne.symm nS.2.1) (Ne.symm nS.2.2.1) hS) fun b o _ c1 c2 c3 c4 e => kp b o c1 c2 c3 c4 e)
    obtain ⟨x, y, e1, e2, e3⟩ := g.pr j t e
    have ht := g.tB t (List.mem_of_getElem? e)
    exact ⟨x, y, e1, e2, kp t _ (Nat.ne_of_gt (Nat.lt_of_lt_of_le lz ht)) (Nat.ne_of_gt (Nat.lt_of_lt_of_le lTO ht)) (Nat.ne_of_gt (Nat.lt_of_lt_of_le l1' ht)) (Nat.ne_of_gt (Nat.lt_of_lt_of_le l2' ht)) e3⟩
  | succ k ih =>
    intro i sh acc ts c hk hi g hS fin
    refine codeAny_builtin F.entry_extend_loop ?_
    rw [Around.under_plainId F.plain_extend_loop _]
    show wpAny _ A.in1 (pyNext (.ref z) >>= _) _ _ sh
    refine wpAny_bind (zgo_item D lz lTO l1' l2' g (by omega) (by omega) fun h' g' kp => ?_)
    have hS' := kp _ _ (Ne.symm nS.2.2.2.2.2.1) (Ne.symm nS.2.2.2.2.2.2) (Ne.symm nS.2.1) (Ne.symm nS.2.2.1) hS
    have asz : acc.size = i := by
      have := congrArg List.length g.ac
      simp at this
      rw [this, g.tl]
    show wpAny _ A.in1 (updateSeq S (·.push (.ref sh.heap.objs.size)) >>= _) _ _ _
    refine wpAny_bind ?_
    refine wpAny_updateSeq hS' rfl (wpAny_pure ⟨plainId_quiet F.plain_extend_loop _, ih (i + 1) _ (acc.push (.ref sh.heap.objs.size)) (ts ++ [sh.heap.objs.size]) _ (by omega) (by omega) (g'.at (by rw [Heap.size_update]) (fun b o hb e => (Heap.get?_update_other _ _ (Ne.symm hb)).trans e) lS nS.1 nS.2.1 nS.2.2.1 nS.2.2.2.1 nS.2.2.2.2.1 nS.2.2.2.2.2.1 nS.2.2.2.2.2.2) (Heap.get?_update_self _ hS' rfl) fun h2 tk acc' ts' c' q1 q2 q3 => ?_⟩)
      (by rw [asz]; omega) (by show (acc.push (Value.ref sh.heap.objs.size)).size ≤ sizeLine + 1; rw [Array.size_push, asz]; omega)
    refine fin h2 tk acc' ts' c' q1 q2 fun b o c0 c1 c2 c3 c4 e => ?_
    exact q3 b o c0 c1 c2 c3 c4 ((Heap.get?_update_other _ _ (Ne.symm c0)).trans (kp b o c1 c2 c3 c4 e))
end
theorem zapart (N l1 l2 : Nat) (h1 : l1 < N) (h2 : l2 < N) : ZipApart (N + 4) (N + 2) (N + 3) N (N + 1) l1 l2 := by
  constructor <;> (intro e; have e' : (_ : Nat) = _ := e; omega)
section
variable {prog : Program} {w : World} {A : Around} {E : Value → Shared → Prop} {sh : Shared}
/-- list(zip(l1, l2)), the zip made -/
theorem call_list_zip0 {N l1 l2 : Nat} {xs ys : Array Value} {Q : Value → Shared → Prop} (hh : A.handled = none) (k1 : l1 < N) (k2 : l2 < N) (h1 : sh.heap.IsList l1 xs) (h2 : sh.heap.IsList l2 ys) (hn : xs.size ≤ sizeLine)
    (z1 : IsZip sh.heap (N + 4) (N + 2) (N + 3) .none) (z2 : PySem.IsPair sh.heap (N + 2) (.ref N) (.ref (N + 1))) (z3 : PySem.IsPair sh.heap (N + 3) .none .none) (z4 : sh.heap.IsListIter N l1 0) (z5 : sh.heap.IsListIter (N + 1) l2 0) (zsz : sh.heap.objs.size = N + 5)
    (fin : ∀ (h' : Heap) (tk : Nat) (acc : Array Value) (ts : List Addr) (c : Nat), List.length ts = min xs.size ys.size → Array.toList acc = ts.map Value.ref → ts.Nodup → (∀ t ∈ ts, N + 6 ≤ t) → (∀ (j : Nat) (t : Addr), ts[j]? = some t → ∃ x y, xs[j]? = some x ∧ ys[j]? = some y ∧ h'.get? t = some (PairO x y)) →
      h'.get? (N + 5) = some { cls := .type "list", dict := none, data := .seq acc c, slots := #[] } → (∀ (b : Nat) o, b < N → sh.heap.get? b = some o → h'.get? b = some o) → Q (.ref (N + 5)) { sh with heap := h', toks := tk }) :
    wpAny (model prog w) A (call (.type "list") [.ref (N + 4)]) Q E sh := by
  refine callType_codes (Q₁ := fun ob st => ob = .ref (N + 5) ∧ st = { sh with heap := sh.heap.push { cls := .type "list", data := .seq #[] } }) F.called_list (F.typeCall_list_1 _) F.entry_list_init (code_list_new _ ⟨by rw [zsz], rfl⟩) fun ob st hob => ?_
  obtain ⟨rfl, rfl⟩ := hob
  have hS : (sh.heap.push { cls := .type "list", data := .seq #[] }).get? (N + 5) = some { cls := .type "list", data := .seq #[] } := by
    have this : (sh.heap.push { cls := .type "list", data := .seq #[] }).get? sh.heap.objs.size = some { cls := .type "list", data := .seq #[] } := Heap.get?_push_size _ rfl
    rw [zsz] at this; exact this
  refine ⟨⟨_, hS, rfl⟩, F.args_list_init_2 _ _, ?_⟩
  show wpAny _ A.in1.in1 (do let old ← Builtin.List.listItems (.ref (N + 5)); Builtin.List.listUpdate (.ref (N + 5)) (fun _ => #[]); letGo old.toList.reverse; Builtin.List.listExtendWith (.ref (N + 5)) (.ref (N + 4)) .none) _ _ _
  refine wpAny_bind ?_
  unfold Builtin.List.listItems
  refine wpAny_bind (wpAny_seqItems hS rfl (wpAny_pure ?_))
  show wpAny _ A.in1.in1 (updateSeq (N + 5) (fun _ => #[]) >>= fun _ => letGo (#[] : Array Value).toList.reverse >>= fun _ => Builtin.List.listExtendWith (.ref (N + 5)) (.ref (N + 4)) .none) _ _ _
  refine wpAny_bind (wpAny_updateSeq hS rfl ?_)
  have hS2 := Heap.get?_update_self (Obj.mapSeq (fun _ => (#[] : Array Value))) hS rfl
  refine wpAny_bind (wpAny_letGo ?_)
  have up0 : ∀ (b : Nat) o, b ≠ N + 5 → sh.heap.get? b = some o → ((sh.heap.push { cls := .type "list", data := .seq #[] }).update (N + 5) (Obj.mapSeq (fun _ => (#[] : Array Value)))).get? b = some o := fun b o hb e =>
    (Heap.get?_update_other _ _ (Ne.symm hb)).trans (Heap.get?_push_of_some _ e)
  have ne5 : ∀ k : Nat, k < 5 → N + k ≠ N + 5 := fun k hk e => by omega
  have tz : Shared.TypeIs { sh with heap := (sh.heap.push { cls := .type "list", data := .seq #[] }).update (N + 5) (Obj.mapSeq (fun _ => (#[] : Array Value))) } (.ref (N + 4)) "zip" := ⟨_, up0 _ _ (ne5 4 (by omega)) z1, rfl⟩
  unfold Builtin.List.listExtendWith
  refine wpAny_bind (wpAny_typeOf tz ?_)
  have q1 : Builtin.List.listSameRef (.ref (N + 5)) (.ref (N + 4)) = false := by simp [Builtin.List.listSameRef]
  have q2 : (Value.type "zip" == Value.type "list") = false := by decide
  have q3 : (Value.type "zip" == Value.type "tuple") = false := by decide
  simp only [q1, q2, q3, Bool.or_false, Bool.false_eq_true, if_false]
  refine wpAny_bind (wpAny_pyIter_zip (up0 _ _ (ne5 4 (by omega)) z1) ?_)
  refine wpAny_bind (wpAny_holding ?_)
  unfold Builtin.List.listLengthHint
  refine wpAny_bind (wpAny_specialOf tz zip_no_len ?_)
  show wpAny _ A.in1.in1 (specialOf (Value.ref (N + 4)) (Str.ofString "__length_hint__") >>= _) _ _ _
  refine wpAny_bind (wpAny_specialOf tz zip_no_hint ?_)
  refine wpAny_pure ?_
  show wpAny _ A.in1.in1 (rule "list.extend.makes-room" >>= fun _ => Builtin.List.listTouch (.ref (N + 5)) >>= fun _ => again (.builtin "list.extend.loop" ⟨[.ref (N + 5), .ref (N + 4), .none], []⟩)) _ _ _
  refine wpAny_bind (wpAny_rule ?_)
  refine wpAny_bind ?_
  show wpAny _ A.in1.in1 (updateSeq (N + 5) (·.push .none) >>= fun _ => updateSeq (N + 5) (·.pop)) _ _ _
  refine wpAny_bind (wpAny_updateSeq hS2 rfl ?_)
  have hS3 := Heap.get?_update_self (Obj.mapSeq (·.push Value.none)) hS2 rfl
  refine wpAny_updateSeq (hz := by seq_fits) hS3 rfl ?_
  have hS4 := Heap.get?_update_self (Obj.mapSeq (·.pop)) hS3 rfl
  generalize hG : ((((sh.heap.push { cls := .type "list", data := .seq #[] }).update (N + 5) (Obj.mapSeq (fun _ => (#[] : Array Value)))).update (N + 5) (Obj.mapSeq (·.push Value.none))).update (N + 5) (Obj.mapSeq (·.pop))) = G at hS4
  have up : ∀ (b : Nat) o, b ≠ N + 5 → sh.heap.get? b = some o → G.get? b = some o := fun b o hb e => by
    rw [← hG]
    exact (Heap.get?_update_other _ _ (Ne.symm hb)).trans ((Heap.get?_update_other _ _ (Ne.symm hb)).trans (up0 b o hb e))
  have gsz : G.objs.size = N + 6 := by
    rw [← hG, Heap.size_update, Heap.size_update, Heap.size_update, Heap.size_push, zsz]
  have nl1 : l1 ≠ N + 5 := by omega
  have nl2 : l2 ≠ N + 5 := by omega
  have go : ZGo (N + 4) (N + 2) (N + 3) N (N + 1) l1 l2 (N + 5) (N + 6) xs ys 0 #[] [] G :=
    ⟨up _ _ (ne5 2 (by omega)) z2, z4.at fun o e => up _ o (ne5 0 (by omega)) e, z5.at fun o e => up _ o (ne5 1 (by omega)) e, h1.at fun o e => up _ o nl1 e, h2.at fun o e => up _ o nl2 e, .inl ⟨up _ _ (ne5 4 (by omega)) z1, _, _, up _ _ (ne5 3 (by omega)) z3⟩,
      Nat.le_of_eq gsz.symm, rfl, rfl, List.nodup_nil, fun t ht => (by cases ht), fun j t e => (by simp at e)⟩
  refine wpAny_pure ⟨plainId_quiet F.plain_extend_loop _, zgo_loop (A := A.in1) (B := (N + 6 : Nat)) (by simp [hh]) (zapart N l1 l2 k1 k2) (by show N + 4 < N + 6; omega) (by show N + 2 < N + 6; omega) (by show N + 3 < N + 6; omega) (by show N < N + 6; omega) (by show N + 1 < N + 6; omega) (by show l1 < N + 6; omega) (by show l2 < N + 6; omega) (by show N + 5 < N + 6; omega)
    ⟨ne5 2 (by omega), ne5 0 (by omega), ne5 1 (by omega), nl1, nl2, ne5 4 (by omega), ne5 3 (by omega)⟩ hn .none _ 0 _ #[] [] _ rfl (Nat.zero_le _) go hS4 fun h' tk acc ts c q1 q2 q3 => ?_⟩
  have kp : ∀ (b : Nat) o, b < N → sh.heap.get? b = some o → h'.get? b = some o := fun b o hb e =>
    q3 b o (fun z => by have z' : b = N + 5 := z; omega) (fun z => by have z' : b = N + 4 := z; omega) (fun z => by have z' : b = N + 3 := z; omega) (fun z => by have z' : b = N := z; omega) (fun z => by have z' : b = N + 1 := z; omega) (up b o (by omega) e)
  rcases q1 with g | ⟨g1, g2, g3, g4, g5⟩
  · exact ⟨rfl, fin h' tk acc ts c g.tl g.ac g.nd g.tB g.pr q2 kp⟩
  · exact ⟨rfl, fin h' tk acc ts c g1 g2 g3 g4 g5 q2 kp⟩
end
end FW

namespace FW
open PySem PySem.Spec L2 PyProof.Rows
/-- a new tuple: the object is told -/
def NewT (Q : VK) (H : Hp) (xs : List V) : Prop := ∀ p ob, ob.cls = .type "tuple" → ob.dict = none → H p = none → Q (.ref p) (upd H p (.frz ob (.tup xs)))
section
variable {X : Cx} {pins : List (Addr × Obj)} {σ : L2.St} {H : Hp} {s : Shared} {Q : VK}
theorem laidT {xs : List V} {us : List Value} {k : Nat} (I : Inv X pins σ H s) (r : Vals xs us) (hz : xs.length ≤ sizeLine) (q : NewT Q H xs) :
    EP X pins σ Q (.ref s.heap.objs.size) { s with toks := k, heap := s.heap.push { cls := .type "tuple", data := .seq us.toArray } } := by
  have hp := I.hok.fresh (Nat.le_refl _)
  refine ⟨.ref s.heap.objs.size, upd H s.heap.objs.size (.frz { cls := .type "tuple", data := .seq us.toArray } (.tup xs)), I.laid (fun b u q => Heap.get?_push_of_some _ q) (Nat.le_refl _) ?_, rfl, q _ _ rfl rfl hp⟩
  exact ⟨Heap.get?_push_size _ rfl, hz, us, r, _, Heap.get?_push_size _ rfl, rfl, _, rfl⟩
end
section
variable {X : Cx}
def tTupF (t : TA) : TE := fun σ H Q => t σ H fun xs H1 => xs.length ≤ sizeLine ∧ NewT Q H1 xs
theorem pe_tupF {es : List Expr} {t : TA} {pos : Pos} {x1} (h : PA X es t) : PE X (.Tuple es x1 pos) (tTupF t) := by
  refine ⟨fun pins s σ H Q I hq => ?_⟩
  refine wpAny_Tuple_spliced (thn (h.run pos pins s σ H _ I hq) fun us s1 ⟨xs, H1, I1, r, z, q⟩ => ⟨by rw [← r.length]; exact z, ?_⟩)
  exact laidT (k := s1.toks) I1 r z q
def rCatF (K : PySem.W.Frag) : R2 := fun x y H Q => ∃ a b xs ys, x = .ref a ∧ y = .ref b ∧ SqT K H a xs ∧ SqT K H b ys ∧ xs.length + ys.length ≤ sizeLine ∧
  (xs = [] → Q (.ref b) H) ∧ (xs ≠ [] → ys = [] → Q (.ref a) H) ∧ (xs ≠ [] → ys ≠ [] → NewT Q H (xs ++ ys))
theorem op_catF : OpR X (binaryOp .Add) (rCatF X.K) := by
  intro pins s σ H x y v u Q I rx ry h
  obtain ⟨a, b, xs, ys, rfl, rfl, ha, hb, hz, q0, q1, q2⟩ := h
  by_cases hx : xs = []
  · subst hx
    exact op_catA pins s σ H _ _ v u Q I rx ry ⟨a, b, [], ys, rfl, rfl, ha, hb, hz, q0, fun z => absurd rfl z, fun z => absurd rfl z⟩
  · cases rx
    cases ry
    obtain ⟨its, r1, p1, _⟩ := I.tuple ha
    obtain ⟨its2, r2, p2, _⟩ := I.tuple hb
    refine HT.cat_tup p1 p2 (fun z => hx (r1.nil_iff.mp z)) (fun z => ⟨.ref a, H, I, rfl, q1 hx (r2.nil_iff.mp z)⟩) (fun z => ?_) (by rw [← r1.length, ← r2.length]; exact hz)
    exact laidT (k := s.toks) I (r1.append r2) (by rw [List.length_append]; exact hz) (q2 hx fun w => z (r2.nil_iff.mpr w))
def rRepF (K : PySem.W.Frag) : R2 := fun x y H Q => ∃ l k xs, x = .ref l ∧ y = .int k ∧ SqT K H l xs ∧ xs ≠ [] ∧ 2 ≤ k ∧ k ≤ 1000 ∧ xs.length ≤ 1000 ∧ NewT Q H (List.replicate k.toNat xs).flatten
theorem op_repF : OpR X (binaryOp .Mult) (rRepF X.K) := by
  intro pins s σ H x y v u Q I rx ry h
  obtain ⟨l, k, xs, rfl, rfl, hT, hne, h1, h2, hz, q⟩ := h
  cases rx
  obtain ⟨t, rfl⟩ := ry
  obtain ⟨its, r, ⟨⟨cls, dd, data, sl⟩, ho, hc, n, hd⟩, hs⟩ := I.tuple hT
  simp only at hc hd
  subst hc hd
  have hle : its.length = xs.length := r.length.symm
  have hn : its ≠ [] := fun e => hne (by
    rw [e] at hle
    exact List.eq_nil_of_length_eq_zero hle.symm)
  have hi : its.toArray.isEmpty = false := by
    cases its with
    | nil => exact absurd rfl hn
    | cons a b => rfl
  have hsz0 : its.toArray.size = xs.length := by rw [List.size_toArray, hle]
  have hm : ((its.toArray.size : Nat) : Int) * k ≤ 1000000 := by
    rw [hsz0]
    have a1 : ((xs.length : Nat) : Int) * k ≤ 1000 * k := Int.mul_le_mul_of_nonneg_right (by omega) (by omega)
    omega
  have flen : (List.replicate k.toNat its).flatten.length ≤ sizeLine := by
    rw [PyProof.Rows.lm_len_rep_flat, hle, sizeLine_eq]
    have a1 : k.toNat * xs.length ≤ 1000 * 1000 := Nat.mul_le_mul (by omega) hz
    omega
  have c0 : (decide (k < -(2 ^ 63)) || decide (k ≥ 2 ^ 63)) = false := by
    rw [decide_eq_false (by omega), decide_eq_false (by omega)] <;> rfl
  have c1 : (its.toArray.isEmpty || k == 1) = false := by
    rw [hi, Bool.false_or]
    exact beq_eq_false_iff_ne.mpr (by omega)
  have c2 : (decide (k ≤ 0) || its.toArray.isEmpty) = false := by
    rw [hi, Bool.or_false]
    exact decide_eq_false (by omega)
  have c4 : Builtin.Tuple.tupleTooMany (((its.toArray.size : Nat) : Int) * k) = false := by
    unfold Builtin.Tuple.tupleTooMany
    rw [sizeLine_eq]
    exact decide_eq_false (by omega)
  refine wpAny_binaryOp_repeat_ref (T := "tuple") (U := "int") (by decide) ⟨_, ho, rfl⟩ (fun s' => typeIs_int s' k t) noFill_tuple_mul F.fills_int_mul F.slot_int_rmul repeat_tuple F.slot_int_index.lookup
    (call_meets F.slot_int_rmul (typeIs_int s k t) F.entry_int_rmul (F.args_int_rmul_2 _ _) (int_rmul_tuple k t l its.toArray n dd sl)
      ⟨ho, rfl, ⟨_, ho, rfl⟩, call_meets F.slot_tuple_mul ⟨_, ho, rfl⟩ F.entry_tuple_mul (F.args_tuple_mul_2 _ _) (tuple_mulW l its.toArray n dd sl k t c0 c1 c2 (by omega) c4 (by rw [size_rep, List.size_toArray]; exact flen)) ⟨ho, ?_⟩⟩)
  rw [size_rep]
  refine laidT (k := s.toks) I (r.rep k.toNat) ?_ q
  rw [PyProof.Rows.lm_len_rep_flat, sizeLine_eq]
  have a1 : k.toNat * xs.length ≤ 1000 * 1000 := Nat.mul_le_mul (by omega) hz
  omega
theorem call_tupleF : CallR X (.type "tuple") (fun xs H Q => ∃ p ys, xs = [.ref p] ∧ ((SqL X.K H p ys ∧ NewT Q H ys) ∨ (SqT X.K H p ys ∧ Q (.ref p) H))) := by
  intro pins s σ H xs us Q I r h
  obtain ⟨p, ys, rfl, h⟩ := h
  rcases h with ⟨hq, q⟩ | ⟨hq, q⟩
  · obtain ⟨u, rfl, rx⟩ := vals1 r
    cases rx
    obtain ⟨its, r', pl, hz⟩ := I.list hq
    have hlen := r'.length
    refine call_tuple_list pl.isList (fun h' kp => ?_) (by simp only [List.size_toArray] <;> omega)
    have I1 : Inv X pins σ H { s with heap := h' } := I.kept (t' := s.toks) kp
    exact laidT (k := s.toks) I1 r' hz q
  · exact call_tuple_of pins s σ H _ us Q I r ⟨p, ys, rfl, .inr ⟨hq, q⟩⟩
def rSlF (K : PySem.W.Frag) : V → Option Int → Option Int → Hp → VK → Prop := fun x lo hi H Q => ∃ a xs, x = .ref a ∧ SqT K H a xs ∧
  (HT.sIx xs.length 0 lo = 0 ∧ HT.sIx xs.length xs.length hi = xs.length → Q (.ref a) H) ∧ (¬ (HT.sIx xs.length 0 lo = 0 ∧ HT.sIx xs.length xs.length hi = xs.length) → NewT Q H (cutV xs lo hi))
theorem sl_tupF : SlR X (rSlF X.K) := by
  intro pins s σ H x v vl vu lo hi sl Q I rx hs pl pu h
  obtain ⟨a, xs, rfl, hx, q1, q2⟩ := h
  by_cases hw : HT.sIx xs.length 0 lo = 0 ∧ HT.sIx xs.length xs.length hi = xs.length
  · exact sl_tupA pins s σ H _ v vl vu lo hi sl Q I rx hs pl pu ⟨a, xs, rfl, hx, q1, fun z => absurd hw z⟩
  · cases rx
    obtain ⟨its, r, ht, hz⟩ := I.tuple hx
    have hlen : its.toArray.size = xs.length := by rw [List.size_toArray]; exact r.length.symm
    refine ⟨"tuple", _, PyProof.Rows.slot_tuple_getitem.lookup, ht.typeIs, ?_⟩
    refine HT.getItem_tuple_cut ht hs pl pu (by rw [hlen]; exact hw) ?_ (by rw [hlen]; exact hz)
    rw [hlen]
    exact laidT (k := s.toks) I ((r.drop (HT.sIx xs.length 0 lo)).take (HT.sIx xs.length xs.length hi - HT.sIx xs.length 0 lo)) (Nat.le_trans (cutV_length xs lo hi) hz) (q2 hw)
theorem call_divmodF : CallR X (.builtin "divmod") (fun xs H Q => ∃ i j, xs = [.int i, .int j] ∧ CDiv i j ∧ NewT Q H [.int (i / j), .int (i % j)]) := by
  intro pins s σ H xs us Q I r h
  obtain ⟨i, j, rfl, ⟨h1, h2⟩, q⟩ := h
  obtain ⟨u, w', rfl, ⟨t, rfl⟩, ⟨t', rfl⟩⟩ := vals2 r
  refine divmod_int (by omega) ?_ (.inl (PyProof.noPylong_small (by omega)))
  rw [Int.fdiv_eq_ediv_of_nonneg i (by omega), Int.fmod_eq_emod_of_nonneg i (by omega)]
  exact laidT (xs := [.int (i / j), .int (i % j)]) (us := [.int (i / j) s.toks, .int (i % j) (s.toks + 1)]) I (.cons ⟨_, rfl⟩ (.cons ⟨_, rfl⟩ .nil)) (by simp only [List.length_cons, List.length_nil]; rw [sizeLine_eq]; decide) q
theorem laid_partsF {pins : List (Addr × Obj)} {σ : L2.St} {H : Hp} {s : Shared} {Q : VK} {x y z : Str} {t u v : Tok} {k : Nat} (I : Inv X pins σ H s) (h : NewT Q H [.str x, .str y, .str z]) :
    EP X pins σ Q (.ref s.heap.objs.size) { s with toks := k, heap := s.heap.push { cls := .type "tuple", data := .seq [Value.str x t, .str y u, .str z v].toArray } } :=
  laidT (xs := [.str x, .str y, .str z]) (us := [Value.str x t, .str y u, .str z v]) I (.cons ⟨_, rfl⟩ (.cons ⟨_, rfl⟩ (.cons ⟨_, rfl⟩ .nil))) (by show 3 ≤ sizeLine; decide) h
theorem mt_partitionF : MtR X "str.partition" (fun x xs H Q => ∃ a b, x = .str a ∧ xs = [.str b] ∧ (b.length == 0) = false ∧ a.length ≤ sizeLine ∧
    NewT Q H [.str (Txt.partition a b).1, .str (Txt.partition a b).2.1, .str (Txt.partition a b).2.2]) := by
  intro pins s σ H x xs v us Q I rx rs h
  obtain ⟨a, b, rfl, rfl, hb, hz, h⟩ := h
  obtain ⟨t, rfl⟩ := rx
  cases rs with
  | cons r1 rs =>
    cases rs
    obtain ⟨u, rfl⟩ := r1
    refine call_meets F.slot_str_partition (typeIs_str _ _ _) F.entry_str_partition (F.args_str_partition_2 _ _) (meets_str_partition a b t u hb hz) ?_
    unfold Txt.partition at h
    revert h
    cases Builtin.Str.occurrences a b 0 a.length 1 with
    | nil => intro h; exact laid_partsF I h
    | cons i r => intro h; exact laid_partsF I h
end
end FW

namespace FW
open PySem PySem.Spec L2

/-- exceptions whose context is None -/
abbrev CX := L2N.CX
abbrev Takes := L2N.Takes
theorem takes0 {X : Cx} : Takes X (fun _ _ _ _ => False) := fun _ _ x => by
  obtain ⟨_, _, _, _, _, _, _, _, _, _, _, _, _, _, _, _, q⟩ := x
  exact q.elim
/-- the defs that make lambdas, in one law or another -/
def makers : List Str := ["least", "how_many", "alike", "meets", "parted", "how_many_have", "_law_doors", "law", "_law_deed", "_law_asked", "_law_all"]
/-- values: fnv is a lambda, with what it holds of its maker's names; tuples, frozen lists and frozen dicts are plain data; ref n is the n-th changing object of the store -/
inductive W where
  | non | bl (b : Bool) | int (i : Int) | str (x : Str)
  | tup (l : List W) | tpu (l : List W) | lst (l : List W) | fzl (l : List W) | dct (l : List (Key × W)) | ref (n : Nat)
  | fnv (f c : Addr) (q : Str) (vs : List V) (ws : List W)
  | exv (a : Addr) (d : Option Addr)

/-- changing objects -/
inductive Ob where
  | lst (l : List W)
  | dct (l : List (Key × W))
  | dcl (o : Obj) (vs : List (Key × V)) (l : List (Key × W))
  | dtc (l : List (List Key × W))
  | ins (c : Str) (fs : List (Str × W))
abbrev Sto := List Ob

/-- an exception: the global name of its class, its fields -/
structure Exc where
  cls : Str
  fs : List (Str × W) := []

/-- what does not change: the written part, the world, the module's names -/
structure GE where
  K : PySem.W.Frag
  w : World
  mg : Str → Option Value
abbrev gOf (X : Cx) : GE := ⟨X.K, X.w, X.mg⟩

def valW {κ : Type} [DecidableEq κ] : List (κ × W) → κ → Option W
  | [], _ => none
  | p :: r, k => if p.1 = k then some p.2 else valW r k
def putW {κ : Type} [DecidableEq κ] : List (κ × W) → κ → W → List (κ × W)
  | [], k, w => [(k, w)]
  | p :: r, k, w => if p.1 = k then (p.1, w) :: r else p :: putW r k w
/-- where the changing objects stand (l), and what is hidden for a while (h) -/
structure AS where
  l : List Addr
  h : List Addr
def AS.has (as : AS) (a : Addr) : Prop := a ∈ as.l ∨ a ∈ as.h
instance : Membership Addr AS := ⟨AS.has⟩
theorem AS.mem_l {as : AS} {a : Addr} (h : a ∈ as.l) : a ∈ as := Or.inl h
theorem AS.mem_h {as : AS} {a : Addr} (h : a ∈ as.h) : a ∈ as := Or.inr h
/-- a dict of the written part with text keys and int values -/
def KD (g : GE) (a : Addr) (kvs : List (Key × W)) : Prop :=
  (∃ es n, KDict g.K g.w a es n) ∧ (∀ z : Str, ∃ r, PySem.W.nsIn g.K a z = some r ∧ (r = none → valW kvs (.inr z) = none) ∧ (∀ u, r = some u → ∃ i, valW kvs (.inr z) = some (.int i) ∧ RelV (.int i) u))

/-- a list of the written part -/
def KLp (K : PySem.W.Frag) (a : Addr) (xs : List V) : Prop :=
  ∃ (o : Obj) (its : Array Value) (n : Nat), K.lookup a = some o ∧ o.cls = .type "list" ∧ o.dict = none ∧ o.data = .seq its n ∧ its.size ≤ sizeLine ∧ Vals xs its.toList
mutual
inductive RelW (g : GE) (as : AS) (H : Hp) : W → V → Prop
  | non : RelW g as H .non .non
  | bl (b : Bool) : RelW g as H (.bl b) (.bl b)
  | int (i : Int) : RelW g as H (.int i) (.int i)
  | str (x : Str) : RelW g as H (.str x) (.str x)
  | tup {a : Addr} {o : Obj} {vs : List V} {ws : List W} : a ∉ as → H a = some (.frz o (.tup vs)) → o.dict = none → RelWs g as H ws vs → RelW g as H (.tup ws) (.ref a)
  | tpu {a : Addr} {vs : List V} {ws : List W} : a ∉ as → H a = some (.tup vs) → RelWs g as H ws vs → RelW g as H (.tpu ws) (.ref a)
  | lst {a : Addr} {vs : List V} {ws : List W} : a ∉ as → H a = some (.lst vs) → RelWs g as H ws vs → RelW g as H (.lst ws) (.ref a)
  | fzl {a : Addr} {o : Obj} {vs : List V} {ws : List W} : a ∉ as → H a = some (.frz o (.lst vs)) → RelWs g as H ws vs → RelW g as H (.fzl ws) (.ref a)
  | fzlK {a : Addr} {vs : List V} {ws : List W} : KLp g.K a vs → RelWs g as H ws vs → RelW g as H (.fzl ws) (.ref a)
  | dct {a : Addr} {kvs : List (Key × V)} {kws : List (Key × W)} : a ∉ as → H a = some (.dK kvs) → RelKs g as H kws kvs → RelW g as H (.dct kws) (.ref a)
  | dctK {a : Addr} {kws : List (Key × W)} : KD g a kws → RelW g as H (.dct kws) (.ref a)
  | ref {n : Nat} {a : Addr} : as.l[n]? = some a → RelW g as H (.ref n) (.ref a)
  | fnv {f c : Addr} {q : Str} {vs : List V} {ws : List W} : c ∉ as → H c = some (LamX.CodeO c q) → RelWs g as H ws vs → RelW g as H (.fnv f c q vs ws) (.ref f)
  | exv {a : Addr} {d : Option Addr} : (∀ dd, d = some dd → dd ∉ as ∧ ∃ vs, H dd = some (.xd vs)) → RelW g as H (.exv a d) (.ref a)
inductive RelWs (g : GE) (as : AS) (H : Hp) : List W → List V → Prop
  | nil : RelWs g as H [] []
  | cons {w : W} {v : V} {ws : List W} {vs : List V} : RelW g as H w v → RelWs g as H ws vs → RelWs g as H (w :: ws) (v :: vs)
inductive RelKs (g : GE) (as : AS) (H : Hp) : List (Key × W) → List (Key × V) → Prop
  | nil : RelKs g as H [] []
  | cons {k : Key} {w : W} {v : V} {ws : List (Key × W)} {vs : List (Key × V)} : RelW g as H w v → RelKs g as H ws vs → RelKs g as H ((k, w) :: ws) ((k, v) :: vs)
end
/-- from one state to a later one: objects that do not change stand as they stood; new changing ones are new -/
structure Fr0 (as as' : AS) (H H' : Hp) : Prop where
  ext : ∀ (n : Nat) (a : Addr), as.l[n]? = some a → as'.l[n]? = some a
  keep : ∀ b o, b ∉ as → (∀ ps, o ≠ .tbl ps) → H b = some o → H' b = some o
  fresh : ∀ b, b ∈ as' → b ∈ as ∨ H b = none ∨ ∃ ps, H b = some (.tbl ps)
/-- .. and what is hidden stands too -/
structure Fr (as as' : AS) (H H' : Hp) : Prop extends Fr0 as as' H H' where
  hid : as'.h = as.h
  hkeep : ∀ b o, b ∈ as.h → H b = some o → H' b = some o

theorem Fr.refl (as : AS) (H : Hp) : Fr as as H H := ⟨⟨fun _ _ h => h, fun _ _ _ _ h => h, fun _ h => .inl h⟩, rfl, fun _ _ _ h => h⟩
theorem Fr0.out {as as' : AS} {H H' : Hp} (f : Fr0 as as' H H') {b : Addr} {o : HO} (h : b ∉ as) (n : ∀ ps, o ≠ .tbl ps) (e : H b = some o) : b ∉ as' := fun z => by
  rcases f.fresh b z with q | q | ⟨ps, q⟩
  · exact h q
  · rw [e] at q; cases q
  · rw [e] at q; exact n ps (Option.some.inj q)
theorem Fr0.trans {as as1 as2 : AS} {H H1 H2 : Hp} (f : Fr0 as as1 H H1) (k : Fr0 as1 as2 H1 H2) : Fr0 as as2 H H2 where
  ext := fun n a h => k.ext n a (f.ext n a h)
  keep := fun b o h n e => k.keep b o (f.out h n e) n (f.keep b o h n e)
  fresh := fun b h => by
    rcases k.fresh b h with q | q
    · exact f.fresh b q
    · cases e : H b with
      | none => exact .inr (.inl rfl)
      | some o =>
        by_cases z : b ∈ as
        · exact .inl z
        · by_cases n : ∃ ps, o = .tbl ps
          · obtain ⟨ps, rfl⟩ := n
            exact .inr (.inr ⟨ps, rfl⟩)
          · have e2 := f.keep b o z (fun ps h => n ⟨ps, h⟩) e
            rcases q with q | ⟨ps, q⟩
            · rw [e2] at q; cases q
            · rw [e2] at q; exact absurd ⟨ps, Option.some.inj q⟩ n
theorem Fr.trans {as as1 as2 : AS} {H H1 H2 : Hp} (f : Fr as as1 H H1) (k : Fr as1 as2 H1 H2) : Fr as as2 H H2 :=
  ⟨f.toFr0.trans k.toFr0, k.hid.trans f.hid, fun b o h e => k.hkeep b o (by rw [f.hid]; exact h) (f.hkeep b o h e)⟩
theorem Fr.same {as : AS} {H H' : Hp} (h : Same H H') : Fr as as H H' := ⟨⟨fun _ _ h => h, fun b o _ _ e => h b o e, fun _ h => .inl h⟩, rfl, fun b o _ e => h b o e⟩
theorem Fr.new {as : AS} {H : Hp} {p : Addr} {o : HO} (h : H p = none) : Fr as as H (upd H p o) := Fr.same fun b u e => by rw [upd_ne (ne_of_none e h)]; exact e

mutual
theorem RelW.fr0 {g : GE} {as as' : AS} {H H' : Hp} (f : Fr0 as as' H H') : ∀ {w : W} {v : V}, RelW g as H w v → RelW g as' H' w v
  | _, _, .non => .non
  | _, _, .bl b => .bl b
  | _, _, .int i => .int i
  | _, _, .str x => .str x
  | _, _, .tup h r n q => .tup (f.out h (fun _ z => by cases z) r) (f.keep _ _ h (fun _ z => by cases z) r) n (RelWs.fr0 f q)
  | _, _, .tpu h r q => .tpu (f.out h (fun _ z => by cases z) r) (f.keep _ _ h (fun _ z => by cases z) r) (RelWs.fr0 f q)
  | _, _, .lst h r q => .lst (f.out h (fun _ z => by cases z) r) (f.keep _ _ h (fun _ z => by cases z) r) (RelWs.fr0 f q)
  | _, _, .fzl h r q => .fzl (f.out h (fun _ z => by cases z) r) (f.keep _ _ h (fun _ z => by cases z) r) (RelWs.fr0 f q)
  | _, _, .fzlK k q => .fzlK k (RelWs.fr0 f q)
  | _, _, .dct h r q => .dct (f.out h (fun _ z => by cases z) r) (f.keep _ _ h (fun _ z => by cases z) r) (RelKs.fr0 f q)
  | _, _, .dctK k => .dctK k
  | _, _, .ref e => .ref (f.ext _ _ e)
  | _, _, .fnv h r q => .fnv (f.out h LamX.codeO_ne r) (f.keep _ _ h LamX.codeO_ne r) (RelWs.fr0 f q)
  | _, _, .exv k => .exv fun dd e => let ⟨h1, vs, h2⟩ := k dd e; ⟨f.out h1 (fun _ z => by cases z) h2, vs, f.keep _ _ h1 (fun _ z => by cases z) h2⟩
theorem RelWs.fr0 {g : GE} {as as' : AS} {H H' : Hp} (f : Fr0 as as' H H') : ∀ {ws : List W} {vs : List V}, RelWs g as H ws vs → RelWs g as' H' ws vs
  | _, _, .nil => .nil
  | _, _, .cons a b => .cons (RelW.fr0 f a) (RelWs.fr0 f b)
theorem RelKs.fr0 {g : GE} {as as' : AS} {H H' : Hp} (f : Fr0 as as' H H') : ∀ {ws : List (Key × W)} {vs : List (Key × V)}, RelKs g as H ws vs → RelKs g as' H' ws vs
  | _, _, .nil => .nil
  | _, _, .cons a b => .cons (RelW.fr0 f a) (RelKs.fr0 f b)
end
theorem RelW.fr {g : GE} {as as' : AS} {H H' : Hp} (f : Fr as as' H H') {w : W} {v : V} (r : RelW g as H w v) : RelW g as' H' w v := r.fr0 f.toFr0
theorem RelWs.fr {g : GE} {as as' : AS} {H H' : Hp} (f : Fr as as' H H') {w : List W} {v : List V} (r : RelWs g as H w v) : RelWs g as' H' w v := r.fr0 f.toFr0
theorem RelKs.fr {g : GE} {as as' : AS} {H H' : Hp} (f : Fr as as' H H') {w : List (Key × W)} {v : List (Key × V)} (r : RelKs g as H w v) : RelKs g as' H' w v := r.fr0 f.toFr0

theorem RelWs.length {g : GE} {as : AS} {H : Hp} : ∀ {ws : List W} {vs : List V}, RelWs g as H ws vs → ws.length = vs.length
  | _, _, .nil => rfl
  | _, _, .cons _ t => by simp [RelWs.length t]
theorem RelWs.get {g : GE} {as : AS} {H : Hp} : ∀ {ws : List W} {vs : List V} {i : Nat} {w : W}, RelWs g as H ws vs → ws[i]? = some w → ∃ v, vs[i]? = some v ∧ RelW g as H w v
  | _, _, _, _, .nil, e => by simp at e
  | _, _, 0, _, .cons a _, e => by simp at e; subst e; exact ⟨_, rfl, a⟩
  | _, _, i + 1, w, .cons _ t, e => by
    obtain ⟨v, h1, h2⟩ := RelWs.get (i := i) (w := w) t (by simpa using e)
    exact ⟨v, by simpa using h1, h2⟩
theorem RelWs.append {g : GE} {as : AS} {H : Hp} : ∀ {ws : List W} {vs : List V} {ws' : List W} {vs' : List V}, RelWs g as H ws vs → RelWs g as H ws' vs' → RelWs g as H (ws ++ ws') (vs ++ vs')
  | _, _, _, _, .nil, h => h
  | _, _, _, _, .cons a t, h => .cons a (RelWs.append t h)
theorem RelWs.take {g : GE} {as : AS} {H : Hp} : ∀ {ws : List W} {vs : List V} (n : Nat), RelWs g as H ws vs → RelWs g as H (ws.take n) (vs.take n)
  | _, _, 0, _ => by simpa using RelWs.nil
  | _, _, _ + 1, .nil => .nil
  | _, _, n + 1, .cons a t => .cons a (RelWs.take n t)
theorem RelWs.drop {g : GE} {as : AS} {H : Hp} : ∀ {ws : List W} {vs : List V} (n : Nat), RelWs g as H ws vs → RelWs g as H (ws.drop n) (vs.drop n)
  | _, _, 0, h => h
  | _, _, _ + 1, .nil => .nil
  | _, _, n + 1, .cons _ t => RelWs.drop n t
theorem RelWs.set {g : GE} {as : AS} {H : Hp} {w : W} {v : V} (r : RelW g as H w v) : ∀ {ws : List W} {vs : List V} (i : Nat), RelWs g as H ws vs → RelWs g as H (ws.set i w) (vs.set i v)
  | _, _, _, .nil => .nil
  | _, _, 0, .cons _ t => .cons r t
  | _, _, i + 1, .cons a t => .cons a (RelWs.set r i t)
theorem RelWs.reverse {g : GE} {as : AS} {H : Hp} : ∀ {ws : List W} {vs : List V}, RelWs g as H ws vs → RelWs g as H ws.reverse vs.reverse
  | _, _, .nil => .nil
  | _, _, .cons a t => by
    rw [List.reverse_cons, List.reverse_cons]
    exact (RelWs.reverse t).append (.cons a .nil)

theorem RelKs.val {g : GE} {as : AS} {H : Hp} {k : Key} : ∀ {kws : List (Key × W)} {kvs : List (Key × V)}, RelKs g as H kws kvs → (valW kws k = none ∧ valV kvs k = none) ∨ ∃ w v, valW kws k = some w ∧ valV kvs k = some v ∧ RelW g as H w v
  | _, _, .nil => .inl ⟨rfl, rfl⟩
  | _, _, .cons (k := k') (w := w) (v := v) (ws := ws) a t => by
    by_cases hz : k' = k
    · exact .inr ⟨w, v, by unfold valW; rw [if_pos hz], valV_pos hz, a⟩
    · rw [valV_neg (show ¬ (k', v).1 = k from hz)]
      have e : valW ((k', w) :: ws) k = valW ws k := by
        show (if k' = k then some w else valW ws k) = _
        rw [if_neg hz]
      rw [e]
      exact RelKs.val t
theorem RelKs.length {g : GE} {as : AS} {H : Hp} : ∀ {ws : List (Key × W)} {vs : List (Key × V)}, RelKs g as H ws vs → ws.length = vs.length
  | _, _, .nil => rfl
  | _, _, .cons _ t => by simp [RelKs.length t]
/-- how a changing object stands -/
def RelO (g : GE) (as : AS) (H : Hp) : Ob → Addr → Prop
  | .lst ws, a => ∃ vs, H a = some (.lst vs) ∧ RelWs g as H ws vs
  | .dct ws, a => ∃ vs, H a = some (.dK vs) ∧ RelKs g as H ws vs
  | .dcl o vs ws, a => H a = some (.frz o (.dK vs)) ∧ RelKs g as H ws vs
  | .dtc ws, a => ∃ vs, H a = some (.dT vs) ∧ Paired (fun (p : List Key × W) (q : List Key × V) => p.1 = q.1 ∧ RelW g as H p.2 q.2) ws vs
  | .ins c fs, a => ∃ C dx vs, g.mg c = some (.ref C) ∧ H a = some (.ins C dx vs) ∧ Paired (fun (p : Str × W) (q : Str × V) => p.1 = q.1 ∧ RelW g as H p.2 q.2) fs vs
theorem RelO.some {g : GE} {as : AS} {H : Hp} {o : Ob} {a : Addr} (h : RelO g as H o a) : ∃ u, H a = some u := by
  cases o with
  | lst ws => obtain ⟨_, e, _⟩ := h; exact ⟨_, e⟩
  | dct ws => obtain ⟨_, e, _⟩ := h; exact ⟨_, e⟩
  | dcl o vs ws => exact ⟨_, h.1⟩
  | dtc ws => obtain ⟨_, e, _⟩ := h; exact ⟨_, e⟩
  | ins c fs => obtain ⟨_, _, _, _, e, _⟩ := h; exact ⟨_, e⟩
theorem RelO.fr {g : GE} {as as' : AS} {H H' : Hp} (f : Fr0 as as' H H') {o : Ob} {a : Addr} (he : ∀ u, H a = .some u → H' a = .some u) (h : RelO g as H o a) : RelO g as' H' o a := by
  cases o with
  | lst ws => obtain ⟨vs, e, r⟩ := h; exact ⟨vs, he _ e, r.fr0 f⟩
  | dct ws => obtain ⟨vs, e, r⟩ := h; exact ⟨vs, he _ e, r.fr0 f⟩
  | dcl o vs ws => exact ⟨he _ h.1, h.2.fr0 f⟩
  | dtc ws => obtain ⟨vs, e, r⟩ := h; exact ⟨vs, he _ e, Paired.mapP r fun _ _ z => ⟨z.1, z.2.fr0 f⟩⟩
  | ins c fs => obtain ⟨C, dx, vs, e0, e, r⟩ := h; exact ⟨C, dx, vs, e0, he _ e, Paired.mapP r fun _ _ z => ⟨z.1, z.2.fr0 f⟩⟩

theorem nodup_at {α : Type} : ∀ {l : List α}, l.Nodup → ∀ {i j : Nat} {x : α}, l[i]? = some x → l[j]? = some x → i = j
  | [], _, _, _, _, e, _ => by simp at e
  | a :: r, hn, 0, 0, _, _, _ => rfl
  | a :: r, hn, 0, j + 1, x, e1, e2 => by
    simp at e1 e2; subst e1
    exact absurd (List.mem_of_getElem? e2) (List.nodup_cons.mp hn).1
  | a :: r, hn, i + 1, 0, x, e1, e2 => by
    simp at e1 e2; subst e2
    exact absurd (List.mem_of_getElem? e1) (List.nodup_cons.mp hn).1
  | a :: r, hn, i + 1, j + 1, x, e1, e2 => by
    have h1 : r[i]? = some x := by simpa using e1
    have h2 : r[j]? = some x := by simpa using e2
    rw [nodup_at (List.nodup_cons.mp hn).2 h1 h2]
/-- no table, no code object -/
def plO : HO → Bool
  | .tbl _ => false
  | .ext _ => false
  | _ => true
/-- the makers that are there, with their code objects, their tables -/
def tabC (K : PySem.W.Frag) : List (Str × Addr × Addr) := makers.filterMap fun x => match PySem.W.nsIn K mainGlobals x with
  | some (some (.ref _)) => some (x, He.cT K (x, none))
  | _ => none
def lamQ (x : Str) : Str := x ++ ".<locals>." ++ "<lambda>"
def tabT (K : PySem.W.Frag) : List (Addr × Str) := (tabC K).map fun p => (p.2.2, lamQ p.1)
theorem tabs_upd {T : List (Addr × Str)} {H : Hp} {a : Addr} {u : HO} (t : LamX.Tabs T H) (h : ∀ o, H a = some o → plO o = true) : LamX.Tabs T (upd H a u) := fun p hp => by
  obtain ⟨ps, h1, h2, h3⟩ := t p hp
  refine ⟨ps, ?_, h2, fun pos cv hc => ?_⟩
  · rw [upd_ne (fun z => by rw [z] at h1; have := h _ h1; cases this)]; exact h1
  · obtain ⟨c, e1, e2⟩ := h3 pos cv hc
    refine ⟨c, e1, ?_⟩
    rw [upd_ne (fun z => by rw [z] at e2; have := h _ e2; cases this)]; exact e2
theorem RelO.pl {g : GE} {as : AS} {H : Hp} {o : Ob} {a : Addr} (h : RelO g as H o a) : ∀ u, H a = .some u → plO u = true := fun u e => by
  cases o with
  | lst ws => obtain ⟨_, q, _⟩ := h; rw [q] at e; cases e; rfl
  | dct ws => obtain ⟨_, q, _⟩ := h; rw [q] at e; cases e; rfl
  | dcl o vs ws => rw [h.1] at e; cases e; rfl
  | dtc ws => obtain ⟨_, q, _⟩ := h; rw [q] at e; cases e; rfl
  | ins c fs => obtain ⟨_, _, _, _, q, _⟩ := h; rw [q] at e; cases e; rfl
/-- the store is held -/
structure SR (g : GE) (as : AS) (H : Hp) (m : Sto) : Prop where
  len : as.l.length = m.length
  nd : as.l.Nodup
  ok : ∀ (n : Nat) (a : Addr) (o : Ob), as.l[n]? = some a → m[n]? = some o → RelO g as H o a
  hok : ∀ b, b ∈ as.h → b ∉ as.l ∧ ∃ u, H b = some u ∧ plO u = true
  tabs : LamX.Tabs (tabT g.K) H
theorem SR.there {g : GE} {as : AS} {H : Hp} {m : Sto} (s : SR g as H m) {a : Addr} (h : a ∈ as) : ∃ u, H a = some u := by
  rcases h with h | h
  · obtain ⟨n, hn, e⟩ := List.mem_iff_getElem.mp h
    have hm : n < m.length := by rw [← s.len]; exact hn
    exact (s.ok n a m[n] (by rw [List.getElem?_eq_getElem hn, e]) (List.getElem?_eq_getElem hm)).some
  · exact let ⟨u, e, _⟩ := (s.hok a h).2; ⟨u, e⟩
theorem SR.out {g : GE} {as : AS} {H : Hp} {m : Sto} (s : SR g as H m) {p : Addr} (h : H p = none) : p ∉ as := fun z => by
  obtain ⟨u, e⟩ := s.there z
  rw [h] at e; cases e
/-- all that stood stands -/
theorem SR.same {g : GE} {as : AS} {H H' : Hp} {m : Sto} (s : SR g as H m) (h : Same H H') : SR g as H' m :=
  ⟨s.len, s.nd, fun n a o e1 e2 => (s.ok n a o e1 e2).fr (Fr.same h).toFr0 fun u e => h a u e, fun b hb => ⟨(s.hok b hb).1, let ⟨u, e, p⟩ := (s.hok b hb).2; ⟨u, h b u e, p⟩⟩, s.tabs.ext h⟩
theorem SR.new {g : GE} {as : AS} {H : Hp} {m : Sto} {p : Addr} {o : HO} (s : SR g as H m) (h : H p = none) : SR g as (upd H p o) m :=
  s.same fun b u e => by rw [upd_ne (ne_of_none e h)]; exact e
theorem SR.get {g : GE} {as : AS} {H : Hp} {m : Sto} (s : SR g as H m) {n : Nat} {a : Addr} (e : as.l[n]? = some a) : ∃ o, m[n]? = some o := by
  have h : n < as.l.length := (List.getElem?_eq_some_iff.mp e).1
  exact ⟨m[n]'(by rw [← s.len]; exact h), List.getElem?_eq_getElem _⟩
theorem SR.putFr {g : GE} {as : AS} {H : Hp} {m : Sto} {n : Nat} {a : Addr} {u : HO} (s : SR g as H m) (e : as.l[n]? = some a) : Fr as as H (upd H a u) := by
  have ha : a ∈ as.l := List.mem_of_getElem? e
  have hh : ∀ b, b ∈ as.h → b ≠ a := fun b hb z => (s.hok b hb).1 (by rw [z]; exact ha)
  have hn : ∀ b, b ∉ as → b ≠ a := fun b hb z => hb (by rw [z]; exact AS.mem_l ha)
  exact ⟨⟨fun _ _ h => h, fun b w hb _ q => by rw [upd_ne (hn b hb)]; exact q, fun _ h => .inl h⟩, rfl, fun b w hb q => by rw [upd_ne (hh b hb)]; exact q⟩
/-- a changing object becomes another -/
theorem SR.put {g : GE} {as : AS} {H : Hp} {m : Sto} {n : Nat} {a : Addr} {o : Ob} {u : HO} (s : SR g as H m) (e : as.l[n]? = some a) (h : RelO g as (upd H a u) o a) :
    Fr as as H (upd H a u) ∧ SR g as (upd H a u) (m.set n o) := by
  have ha : a ∈ as.l := List.mem_of_getElem? e
  have hh : ∀ b, b ∈ as.h → b ≠ a := fun b hb z => (s.hok b hb).1 (by rw [z]; exact ha)
  have f : Fr as as H (upd H a u) := s.putFr e
  obtain ⟨o0, e0⟩ := s.get e
  refine ⟨f, by rw [List.length_set]; exact s.len, s.nd, fun k b v e1 e2 => ?_, fun b hb => ⟨(s.hok b hb).1, let ⟨w, q, p⟩ := (s.hok b hb).2; ⟨w, f.hkeep b w hb q, p⟩⟩, tabs_upd s.tabs (s.ok n a o0 e e0).pl⟩
  by_cases hk : k = n
  · subst hk
    rw [e] at e1; cases e1
    have hl : k < m.length := by rw [← s.len]; exact (List.getElem?_eq_some_iff.mp e).1
    rw [List.getElem?_set_self hl] at e2; cases e2
    exact h
  · rw [List.getElem?_set_ne (Ne.symm hk)] at e2
    have hb : b ≠ a := fun z => by
      subst z
      exact hk (nodup_at s.nd e1 e)
    exact (s.ok k b v e1 e2).fr f.toFr0 fun w q => by rw [upd_ne hb]; exact q
def AS.push (as : AS) (p : Addr) : AS := ⟨as.l ++ [p], as.h⟩
/-- a new changing object -/
theorem SR.grow {g : GE} {as : AS} {H : Hp} {m : Sto} {p : Addr} {o : Ob} {u : HO} (s : SR g as H m) (hp : H p = none) (h : ∀ as', Fr as as' H (upd H p u) → RelO g as' (upd H p u) o p) :
    Fr as (as.push p) H (upd H p u) ∧ SR g (as.push p) (upd H p u) (m ++ [o]) ∧ (as.push p).l[m.length]? = some p := by
  have f : Fr as (as.push p) H (upd H p u) := ⟨⟨fun n a e => by
      show (as.l ++ [p])[n]? = some a
      rw [List.getElem?_append_left (List.getElem?_eq_some_iff.mp e).1]; exact e,
    fun b w _ _ q => by rw [upd_ne (ne_of_none q hp)]; exact q, fun b hb => by
      rcases hb with q | q
      · rcases List.mem_append.mp q with q | q
        · exact .inl (AS.mem_l q)
        · rw [List.mem_singleton.mp q]; exact .inr (.inl hp)
      · exact .inl (AS.mem_h q)⟩, rfl, fun b w _ q => by rw [upd_ne (ne_of_none q hp)]; exact q⟩
  have nin := s.out hp
  have last : (as.push p).l[m.length]? = some p := by
    show (as.l ++ [p])[m.length]? = some p
    rw [← s.len]; simp
  refine ⟨f, ⟨by show (as.l ++ [p]).length = _; simp [s.len], ?_, fun k b v e1 e2 => ?_, fun b hb => ?_, tabs_upd s.tabs (fun o z => by rw [hp] at z; cases z)⟩, last⟩
  · show (as.l ++ [p]).Nodup
    rw [List.nodup_append]
    exact ⟨s.nd, by simp, fun a ha b hb z => by rw [List.mem_singleton.mp hb] at z; exact nin (AS.mem_l (z ▸ ha))⟩
  · by_cases hk : k < as.l.length
    · have e1 : (as.l ++ [p])[k]? = some b := e1
      rw [List.getElem?_append_left hk] at e1
      rw [List.getElem?_append_left (by rw [← s.len]; exact hk)] at e2
      have r := s.ok k b v e1 e2
      exact r.fr f.toFr0 fun w q => by rw [upd_ne (ne_of_none q hp)]; exact q
    · have hk2 : k = as.l.length := by
        have := (List.getElem?_eq_some_iff.mp (show (as.l ++ [p])[k]? = some b from e1)).1
        simp at this
        omega
      subst hk2
      rw [s.len] at e1 e2
      rw [last] at e1; cases e1
      simp at e2
      subst e2
      exact h _ f
  · obtain ⟨h1, w, q, pw⟩ := s.hok b hb
    refine ⟨fun z => ?_, w, f.hkeep b w hb q, pw⟩
    rcases List.mem_append.mp (show b ∈ as.l ++ [p] from z) with z | z
    · exact h1 z
    · rw [List.mem_singleton.mp z] at q; rw [hp] at q; cases q

structure RelS (g : GE) (as : AS) (H : Hp) (σ : L2.St) (d : List (Option W)) : Prop where
  len : σ.length = d.length
  ok : ∀ (i : Nat) (w : W), d[i]? = some (some w) → ∃ v, σ[i]? = some (some v) ∧ RelW g as H w v
theorem RelS.fr {g : GE} {as as' : AS} {H H' : Hp} {σ : L2.St} {d : List (Option W)} (f : Fr as as' H H') (r : RelS g as H σ d) : RelS g as' H' σ d :=
  ⟨r.len, fun i w e => let ⟨v, h1, h2⟩ := r.ok i w e; ⟨v, h1, h2.fr f⟩⟩
theorem RelS.fr0 {g : GE} {as as' : AS} {H H' : Hp} {σ : L2.St} {d : List (Option W)} (f : Fr0 as as' H H') (r : RelS g as H σ d) : RelS g as' H' σ d :=
  ⟨r.len, fun i w e => let ⟨v, h1, h2⟩ := r.ok i w e; ⟨v, h1, h2.fr0 f⟩⟩
theorem RelS.set {g : GE} {as : AS} {H : Hp} {σ : L2.St} {d : List (Option W)} {w : W} {v : V} (r : RelS g as H σ d) (h : RelW g as H w v) (i : Nat) : RelS g as H (σ.set i (some v)) (d.set i (some w)) := by
  refine ⟨by simp [r.len], fun j u e => ?_⟩
  by_cases hj : j = i
  · subst hj
    have hl : j < d.length := by
      have := (List.getElem?_eq_some_iff.mp e).1
      simpa using this
    rw [List.getElem?_set_self hl] at e; cases e
    exact ⟨v, by rw [List.getElem?_set_self (by rw [r.len]; exact hl)], h⟩
  · rw [List.getElem?_set_ne (Ne.symm hj)] at e
    obtain ⟨x, h1, h2⟩ := r.ok j u e
    exact ⟨x, by rw [List.getElem?_set_ne (Ne.symm hj)]; exact h1, h2⟩

/-- how an exception lies: its class, its own dict -/
def XR (g : GE) (as : AS) (H : Hp) (x : Exc) (cls : Value) (d : Option Addr) : Prop :=
  ∃ C, g.mg x.cls = some (.ref C) ∧ cls = .ref C ∧ (x.fs = [] → d = none) ∧ (x.fs ≠ [] → ∃ dd vs, d = some dd ∧ dd ∉ as ∧ H dd = some (.xd vs) ∧ Paired (fun (p : Str × W) (q : Str × V) => p.1 = q.1 ∧ RelW g as H p.2 q.2) x.fs vs)
end FW

namespace FW
open PySem PySem.Spec L2

abbrev WR := W → Sto → Prop
abbrev WZ := Exc → Sto → Prop
abbrev WE := List (Option W) → Sto → WR → WZ → Prop
abbrev WT := List (Option W) → Sto → (Bool → Sto → Prop) → WZ → Prop
abbrev WA := List (Option W) → Sto → (List W → Sto → Prop) → WZ → Prop
abbrev WO := W → W → Sto → WR → Prop
abbrev WF := List W → Sto → WR → Prop

/-- the link of what is wanted of an exception -/
def XLk (g : GE) (E : XK) (as : AS) (H : Hp) (Z : WZ) : Prop :=
  ∀ x m H' as' cls d, Fr as as' H H' → SR g as' H' m → XR g as' H' x cls d → Z x m → E cls d H'
theorem XLk.fr {g : GE} {E : XK} {as as' : AS} {H H' : Hp} {Z : WZ} (f : Fr as as' H H') (h : XLk g E as H Z) : XLk g E as' H' Z :=
  fun x m H2 as2 cls d f2 s r z => h x m H2 as2 cls d (f.trans f2) s r z
theorem XLk.no {g : GE} {E : XK} {as : AS} {H : Hp} : XLk g E as H (fun _ _ => False) := fun _ _ _ _ _ _ _ _ _ z => z.elim

/-- the general reading: α what is told at the level of W, β below -/
def tG {α β : Type} (g : GE) (E : XK) (rho : AS → Hp → α → β → Prop) (t : List (Option W) → Sto → (α → Sto → Prop) → WZ → Prop) : L2.St → Hp → (β → Hp → Prop) → Prop :=
  fun σ H Q => ∃ as d m R Z, SR g as H m ∧ RelS g as H σ d ∧ t d m R Z ∧ (∀ a m' b H' as', Fr as as' H H' → SR g as' H' m' → rho as' H' a b → R a m' → Q b H') ∧ XLk g E as H Z
abbrev tM (g : GE) (E : XK) (t : WE) : TE := tG g E (RelW g) t
abbrev tMT (g : GE) (E : XK) (t : WT) : TT := tG g E (fun _ _ (a b : Bool) => a = b) t
abbrev tMA (g : GE) (E : XK) (t : WA) : TA := tG g E (RelWs g) t

theorem PE_mono {X : Cx} {e : Expr} {t t' : TE} (h : PE X e t) (k : ∀ σ H Q, t' σ H Q → t σ H Q) : PE X e t' := ⟨fun pins s σ H Q I q => h.run pins s σ H Q I (k σ H Q q)⟩
theorem PT_mono {X : Cx} {e : Expr} {t t' : TT} (h : PT X e t) (k : ∀ σ H Q, t' σ H Q → t σ H Q) : PT X e t' := ⟨fun pins s σ H Q I q => h.run pins s σ H Q I (k σ H Q q)⟩
theorem PW_mono {X : Cx} {e : Expr} {t t' : TT} (h : PW X e t) (k : ∀ σ H Q, t' σ H Q → t σ H Q) : PW X e t' := ⟨fun wh pins s σ H Q I q => h.run wh pins s σ H Q I (k σ H Q q)⟩
theorem PA_mono {X : Cx} {e : List Expr} {t t' : TA} (h : PA X e t) (k : ∀ σ H Q, t' σ H Q → t σ H Q) : PA X e t' := ⟨fun p pins s σ H Q I q => h.run p pins s σ H Q I (k σ H Q q)⟩
theorem PS_mono {X : Cx} {e : Stmt} {t t' : TS} (h : PS X e t) (k : ∀ D σ H, t' D σ H → t D σ H) : PS X e t' := ⟨fun pins s σ H D I q => h.run pins s σ H D I (k D σ H q)⟩
theorem PSs_mono {X : Cx} {e : List Stmt} {t t' : TS} (h : PSs X e t) (k : ∀ D σ H, t' D σ H → t D σ H) : PSs X e t' := ⟨fun pins s σ H D I q => h.run pins s σ H D I (k D σ H q)⟩
theorem PI_mono {X : Cx} {tg e : Expr} {t t' : TI} (h : PI X tg e t) (k : ∀ σ H Q, t' σ H Q → t σ H Q) : PI X tg e t' := ⟨fun pins s σ H Q I q => h.run pins s σ H Q I (k σ H Q q)⟩
theorem PG_mono {X : Cx} {tg : Expr} {t t' : TG} (h : PG X tg t) (k : ∀ v σ H Q, t' v σ H Q → t v σ H Q) : PG X tg t' := ⟨fun pins s σ H v u Q I r q => h.run pins s σ H v u Q I r (k v σ H Q q)⟩

def wC (w : W) : WE := fun _ m R _ => R w m
def getS (d : List (Option W)) (i : Nat) : Option W := (d[i]?).join
def wVar (i : Nat) : WE := fun d m R _ => match getS d i with
  | some w => R w m
  | none => False
section
variable {X : Cx} {E : XK} {pos : Pos}
theorem w_const {e : Expr} {v : V} {w : W} (h : PE X e (tC v)) (r : ∀ as H, RelW (gOf X) as H w v) : PE X e (tM (gOf X) E (wC w)) :=
  PE_mono h fun σ H Q ⟨as, d, m, R, Z, sr, rs, h, ok, ex⟩ => ok w m v H as (Fr.refl _ _) sr (r _ _) h
theorem w_int {i : Int} {j} : PE X (.Constant (.int i) j pos) (tM (gOf X) E (wC (.int i))) := w_const pe_int fun _ _ => .int i
theorem w_bl {i : Bool} {j} : PE X (.Constant (.bool i) j pos) (tM (gOf X) E (wC (.bl i))) := w_const pe_bl fun _ _ => .bl i
theorem w_non {j} : PE X (.Constant .none j pos) (tM (gOf X) E (wC .non)) := w_const pe_non fun _ _ => .non
theorem w_str {x : Str} {j} : PE X (.Constant (.str x) j pos) (tM (gOf X) E (wC (.str x))) := w_const pe_str fun _ _ => .str x
theorem w_var {i : Nat} {x : Str} (hN : X.N[i]? = some x) (hv : Vis X.env.scope x) (hd : (x == ("__debug__" : Str)) = false) (hcd : (x == ("__classdict__" : Str)) = false) : PE X (.Name x pos) (tM (gOf X) E (wVar i)) :=
  PE_mono (pe_var hN hv hd hcd) fun σ H Q ⟨as, d, m, R, Z, sr, rs, h, ok, ex⟩ => by
    unfold wVar getS at h
    cases e : d[i]? with
    | none => rw [e] at h; exact h.elim
    | some o =>
      cases o with
      | none => rw [e] at h; exact h.elim
      | some w =>
        rw [e] at h
        obtain ⟨v, e1, r⟩ := rs.ok i w e
        exact ⟨v, e1, ok w m v H as (Fr.refl _ _) sr r h⟩
/-- a constant of the module -/
theorem w_glob {x : Str} {v : V} {u : Value} {w : W} (hg : Gl X x) (hm : X.mg x = some u) (rv : RelV v u) (r : ∀ as H, RelW (gOf X) as H w v) (hd : (x == ("__debug__" : Str)) = false) : PE X (.Name x pos) (tM (gOf X) E (wC w)) :=
  w_const (pe_glob hg hm rv hd) r
end

def rW (g : GE) (f : WO) : R2 := fun x y H Q => ∃ as wx wy m R, SR g as H m ∧ RelW g as H wx x ∧ RelW g as H wy y ∧ f wx wy m R ∧
  ∀ w m' v H' as', Fr as as' H H' → SR g as' H' m' → RelW g as' H' w v → R w m' → Q v H'
def OpW (X : Cx) (F : Value → Value → Sem Value) (f : WO) : Prop := OpR X F (rW (gOf X) f)
def rW1 (g : GE) (f : W → Sto → WR → Prop) : V → Hp → VK → Prop := fun x H Q => ∃ as wx m R, SR g as H m ∧ RelW g as H wx x ∧ f wx m R ∧
  ∀ w m' v H' as', Fr as as' H H' → SR g as' H' m' → RelW g as' H' w v → R w m' → Q v H'
def rWF (g : GE) (f : WF) : List V → Hp → VK → Prop := fun xs H Q => ∃ as ws m R, SR g as H m ∧ RelWs g as H ws xs ∧ f ws m R ∧
  ∀ w m' v H' as', Fr as as' H H' → SR g as' H' m' → RelW g as' H' w v → R w m' → Q v H'
def CallW (X : Cx) (F : Value) (f : WF) : Prop := CallR X F (rWF (gOf X) f)

def wOp (f : WO) (a b : WE) : WE := fun d m R Z => a d m (fun x m1 => b d m1 (fun y m2 => f x y m2 R) Z) Z
def wUn (f : W → Sto → WR → Prop) (a : WE) : WE := fun d m R Z => a d m (fun x m1 => f x m1 R) Z
section
variable {X : Cx} {E : XK} {pos : Pos} {a b : Expr} {ta tb : WE}
theorem top_of {f : WO} {σ : L2.St} {H : Hp} {Q : VK} (h : tM (gOf X) E (wOp f ta tb) σ H Q) : tOp (rW (gOf X) f) (tM (gOf X) E ta) (tM (gOf X) E tb) σ H Q := by
  obtain ⟨as, d, m, R, Z, sr, rs, h, ok, ex⟩ := h
  refine ⟨as, d, m, _, Z, sr, rs, h, fun w m1 v H1 as1 f1 s1 r1 h1 => ?_, ex⟩
  refine ⟨as1, d, m1, _, Z, s1, rs.fr f1, h1, fun w2 m2 v2 H2 as2 f2 s2 r2 h2 => ?_, ex.fr f1⟩
  exact ⟨as2, w, w2, m2, R, s2, r1.fr f2, r2, h2, fun w3 m3 v3 H3 as3 f3 s3 r3 h3 => ok w3 m3 v3 H3 as3 (f1.trans (f2.trans f3)) s3 r3 h3⟩
theorem w_op {op : Operator} {f : WO} (ho : OpW X (binaryOp op) f) (ha : PE X a (tM (gOf X) E ta)) (hb : PE X b (tM (gOf X) E tb)) : PE X (.BinOp a op b pos) (tM (gOf X) E (wOp f ta tb)) :=
  PE_mono (pe_op ho ha hb) fun _ _ _ h => top_of h
theorem w_cmp {op : CmpOp} {f : WO} (ho : OpW X (compareOp op) f) (ha : PE X a (tM (gOf X) E ta)) (hb : PE X b (tM (gOf X) E tb)) (hm : behindInMarks op b = false) : PE X (.Compare a [op] [b] pos) (tM (gOf X) E (wOp f ta tb)) :=
  PE_mono (pe_cmpR ho ha hb hm) fun _ _ _ h => top_of h
theorem w_un {op : UnaryOp} {f : W → Sto → WR → Prop} (ho : UnR X (unaryOp op) (rW1 (gOf X) f)) (ha : PE X a (tM (gOf X) E ta)) : PE X (.UnaryOp op a pos) (tM (gOf X) E (wUn f ta)) :=
  PE_mono (pe_un ho ha) fun σ H Q ⟨as, d, m, R, Z, sr, rs, h, ok, ex⟩ =>
    ⟨as, d, m, _, Z, sr, rs, h, fun w m1 v H1 as1 f1 s1 r1 h1 => ⟨as1, w, m1, R, s1, r1, h1, fun w3 m3 v3 H3 as3 f3 s3 r3 h3 => ok w3 m3 v3 H3 as3 (f1.trans f3) s3 r3 h3⟩, ex⟩
end

def lstOf (m : Sto) : W → Option (List W)
  | .lst l => some l
  | .fzl l => some l
  | .ref n => (match m[n]? with
    | some (.lst l) => some l
    | _ => none)
  | _ => none
/-- a list that is tracked as it is -/
def lstOfT (m : Sto) : W → Option (List W)
  | .lst l => some l
  | .ref n => (match m[n]? with
    | some (.lst l) => some l
    | _ => none)
  | _ => none
def seqOf (m : Sto) : W → Option (List W)
  | .tup l => some l
  | w => lstOf m w
section
variable {g : GE} {as : AS} {H : Hp} {m : Sto} {w : W} {v : V} {l : List W}
theorem relTF (r : RelW g as H (.tup l) v) : ∃ a o vs, v = .ref a ∧ H a = some (.frz o (.tup vs)) ∧ o.dict = none ∧ a ∉ as ∧ RelWs g as H l vs := by
  cases r with
  | tup h1 h2 n h3 => exact ⟨_, _, _, rfl, h2, n, h1, h3⟩
theorem relT (r : RelW g as H (.tup l) v) : ∃ a vs, v = .ref a ∧ Rd H a (.tup vs) ∧ a ∉ as ∧ RelWs g as H l vs := by
  obtain ⟨a, o, vs, h1, h2, _, h4, h5⟩ := relTF r
  exact ⟨a, vs, h1, .inr ⟨o, h2⟩, h4, h5⟩
theorem relRef (s : SR g as H m) {n : Nat} {o : Ob} (r : RelW g as H (.ref n) v) (e : m[n]? = some o) : ∃ a, v = .ref a ∧ as.l[n]? = some a ∧ RelO g as H o a := by
  cases r with
  | ref h => exact ⟨_, rfl, h, s.ok n _ o h e⟩
theorem relL (s : SR g as H m) (r : RelW g as H w v) (e : lstOf m w = some l) : ∃ a vs, v = .ref a ∧ SqL g.K H a vs ∧ RelWs g as H l vs := by
  cases r with
  | lst h1 h2 h3 =>
    have e' : some _ = some l := e
    cases e'; exact ⟨_, _, rfl, .inl (.inl h2), h3⟩
  | fzl h1 h2 h3 =>
    have e' : some _ = some l := e
    cases e'; exact ⟨_, _, rfl, .inl (.inr ⟨_, h2⟩), h3⟩
  | fzlK h1 h3 =>
    have e' : some _ = some l := e
    cases e'; exact ⟨_, _, rfl, .inr h1, h3⟩
  | @ref n a h =>
    have e' : (match m[n]? with
      | some (.lst l) => some l
      | _ => none) = some l := e
    cases q : m[n]? with
    | none => rw [q] at e'; cases e'
    | some o =>
      rw [q] at e'
      cases o with
      | lst ws =>
        cases e'
        obtain ⟨vs, h1, h2⟩ := s.ok n a _ h q
        exact ⟨a, vs, rfl, .inl (.inl h1), h2⟩
      | _ => cases e'
  | _ => cases e
theorem relLT (s : SR g as H m) (r : RelW g as H w v) (e : lstOfT m w = some l) : ∃ a vs, v = .ref a ∧ H a = some (.lst vs) ∧ RelWs g as H l vs := by
  cases r with
  | lst h1 h2 h3 =>
    have e' : some _ = some l := e
    cases e'; exact ⟨_, _, rfl, h2, h3⟩
  | @ref n a h =>
    have e' : (match m[n]? with
      | some (.lst l) => some l
      | _ => none) = some l := e
    cases q : m[n]? with
    | none => rw [q] at e'; cases e'
    | some o =>
      rw [q] at e'
      cases o with
      | lst ws =>
        cases e'
        obtain ⟨vs, h1, h2⟩ := s.ok n a _ h q
        exact ⟨a, vs, rfl, h1, h2⟩
      | _ => cases e'
  | _ => cases e
theorem relSeq (s : SR g as H m) (r : RelW g as H w v) (e : seqOf m w = some l) : ∃ a vs, v = .ref a ∧ (SqL g.K H a vs ∨ SqT g.K H a vs) ∧ RelWs g as H l vs := by
  by_cases ht : ∃ k, w = .tup k
  · obtain ⟨k, rfl⟩ := ht
    have e' : some k = some l := e
    cases e'
    obtain ⟨a, vs, h1, h2, h3, h4⟩ := relT r
    exact ⟨a, vs, h1, .inr (.inl h2), h4⟩
  · have e' : lstOf m w = some l := by
      cases w <;> first | exact e | exact absurd ⟨_, rfl⟩ ht
    obtain ⟨a, vs, h1, h2, h3⟩ := relL s r e'
    exact ⟨a, vs, h1, .inl h2, h3⟩
end
theorem relInt {g : GE} {as : AS} {H : Hp} {i : Int} {v : V} (r : RelW g as H (.int i) v) : v = .int i := by cases r; rfl
theorem relStr {g : GE} {as : AS} {H : Hp} {x : Str} {v : V} (r : RelW g as H (.str x) v) : v = .str x := by cases r; rfl
theorem relBl {g : GE} {as : AS} {H : Hp} {b : Bool} {v : V} (r : RelW g as H (.bl b) v) : v = .bl b := by cases r; rfl
theorem relNon {g : GE} {as : AS} {H : Hp} {v : V} (r : RelW g as H .non v) : v = .non := by cases r; rfl
end FW

namespace FW
open PySem PySem.Spec L2
def oAdd : WO := fun x y m R => match x, y with
  | .int i, .int j => R (.int (i + j)) m
  | .str a, .str b => a.length + b.length ≤ sizeLine ∧ R (.str (a ++ b)) m
  | .tup a, .tup b => a.length + b.length ≤ sizeLine ∧ R (.tup (a ++ b)) m
  | x, y => match lstOfT m x, lstOfT m y with
    | some a, some b => a.length + b.length ≤ sizeLine ∧ R (.lst (a ++ b)) m
    | _, _ => False
def oSub : WO := fun x y m R => match x, y with
  | .int i, .int j => R (.int (i - j)) m
  | _, _ => False
def MulOk (i j : Int) : Prop := CMul i j ∨ CMulW i j
/-- a text n times -/
def repS (z : Str) (n : Nat) : Str := ⟨(List.replicate n z.cps.toList).flatten.toArray⟩
theorem repS_foldl (z : Str) : ∀ (n : Nat) (acc : Array Nat), (List.replicate n z.cps).foldl (· ++ ·) acc = acc ++ (repS z n).cps
  | 0, acc => by simp [repS]
  | n + 1, acc => by
    rw [List.replicate_succ, List.foldl_cons, repS_foldl z n]
    rw [Array.append_assoc]
    congr 1
    apply Array.toList_inj.mp
    simp [repS, List.replicate_succ]
theorem repS_one (z : Str) : repS z 1 = z := by simp [repS]
theorem repS_nil {z : Str} (h : z.length = 0) (n : Nat) : repS z n = z := by
  have e : z.cps.toList = [] := by
    have : z.cps.size = 0 := h
    simpa using this
  have e2 : z = ⟨#[]⟩ := Str.ext' (Array.toList_inj.mp (by rw [e]))
  unfold repS
  rw [e, e2]
  congr 1
  induction n with
  | zero => rfl
  | succ n ih => simpa using ih
theorem op_repS {X : Cx} : OpR X (binaryOp .Mult) (fun x y H Q => ∃ (z : Str) (k : Int), x = .str z ∧ y = .int k ∧ 0 ≤ k ∧ k ≤ 1000 ∧ z.length ≤ 1000 ∧ Q (.str (repS z k.toNat)) H) := by
  intro pins s σ H x y v u Q I rx ry ⟨z, k, e1, e2, h0, h1, hz, q⟩
  subst e1 e2
  obtain ⟨t, rfl⟩ := (show ∃ t, v = Value.str z t from rx)
  obtain ⟨t', rfl⟩ := (show ∃ t, u = Value.int k t from ry)
  have hlen : z.length * k.toNat ≤ 1000 * 1000 := Nat.mul_le_mul hz (by omega)
  have hs : (1000 * 1000 : Nat) ≤ sizeLine := by rw [sizeLine_eq]; decide
  refine PySem.P.mul_str ?_ ?_ ?_ ?_
  · rw [decide_eq_false (by omega), decide_eq_false (by omega)]; rfl
  · intro a _
    have : (1000 : Int) ≤ (2 ^ 63 - 1) / k := by
      rw [Int.le_ediv_iff_mul_le (by omega)]
      omega
    omega
  · intro _ _
    show decide (_ > _) = false
    rw [decide_eq_false_iff_not]
    omega
  · split
    · rename_i hk
      have e : k = 0 := by omega
      subst e
      exact ⟨by decide, .str (repS z 0), H, I.tok _, ⟨_, rfl⟩, q⟩
    · split
      · rename_i hk
        refine ⟨.str z, H, I, ⟨t, rfl⟩, ?_⟩
        have : repS z k.toNat = z := by
          rcases Bool.or_eq_true_iff.mp hk with hk | hk
          · have : k = 1 := by simpa using hk
            subst this
            exact repS_one z
          · exact repS_nil (by simpa using hk) _
        rw [← this]; exact q
      · rw [repS_foldl]
        have e : (#[] : Array Nat) ++ (repS z k.toNat).cps = (repS z k.toNat).cps := by simp
        rw [e]
        refine ⟨?_, .str (repS z k.toNat), H, I.tok _, ⟨_, rfl⟩, q⟩
        have e2 : (repS z k.toNat).length = k.toNat * z.length := by
          show (List.replicate k.toNat z.cps.toList).flatten.toArray.size = _
          simp [Str.length]
        show (repS z k.toNat).length ≤ sizeLine
        rw [e2, Nat.mul_comm]
        omega
def oMul : WO := fun x y m R => match x, y with
  | .int i, .int j => MulOk i j ∧ R (.int (i * j)) m
  | .tup l, .int k => l ≠ [] ∧ 2 ≤ k ∧ k ≤ 1000 ∧ l.length ≤ 1000 ∧ R (.tup (List.replicate k.toNat l).flatten) m
  | .str z, .int k => 0 ≤ k ∧ k ≤ 1000 ∧ z.length ≤ 1000 ∧ R (.str (repS z k.toNat)) m
  | x, .int k => (match lstOfT m x with
    | some l => -(2 ^ 63) ≤ k ∧ k < 2 ^ 63 ∧ l.length * k.toNat ≤ sizeLine ∧ R (.lst (List.replicate k.toNat l).flatten) m
    | none => False)
  | _, _ => False
def oDiv : WO := fun x y m R => match x, y with
  | .int i, .int j => CDivW i j ∧ R (.int (i / j)) m
  | _, _ => False
def oMod : WO := fun x y m R => match x, y with
  | .int i, .int j => 0 < j ∧ R (.int (i % j)) m
  | _, _ => False
def oPow : WO := fun x y m R => match x, y with
  | .int i, .int j => CPow i j ∧ R (.int (i ^ j.toNat)) m
  | _, _ => False
section
variable {X : Cx}
theorem RelWs.rep {g : GE} {as : AS} {H : Hp} {ws : List W} {vs : List V} (r : RelWs g as H ws vs) : ∀ n : Nat, RelWs g as H (List.replicate n ws).flatten (List.replicate n vs).flatten
  | 0 => .nil
  | n + 1 => by
    rw [List.replicate_succ, List.replicate_succ, List.flatten_cons, List.flatten_cons]
    exact r.append (RelWs.rep r n)
/-- two ints -/
theorem opw_int {F : Value → Value → Sem Value} {f : WO} {C : Int → Int → Prop} {h : Int → Int → V} {h' : Int → Int → W} (ho : OpR X F (rI C h)) (hr : ∀ i j as H, RelW (gOf X) as H (h' i j) (h i j))
    (hf : ∀ x y m R, f x y m R → ∃ i j, x = .int i ∧ y = .int j ∧ C i j ∧ R (h' i j) m) : OpW X F f := by
  intro pins s σ H x y v u Q I rx ry ⟨as, wx, wy, m, R, sr, r1, r2, q, ok⟩
  obtain ⟨i, j, rfl, rfl, c, q⟩ := hf _ _ _ _ q
  exact ho pins s σ H x y v u Q I rx ry ⟨i, j, relInt r1, relInt r2, c, ok _ m _ H as (Fr.refl _ _) sr (hr i j as H) q⟩
theorem opw_sub : OpW X (binaryOp .Sub) oSub := opw_int (C := fun _ _ => True) (h := fun i j => .int (i - j)) (h' := fun i j => .int (i - j)) (fun pins s σ H x y v u Q I rx ry ⟨i, j, e1, e2, _, q⟩ => op_sub pins s σ H x y v u Q I rx ry ⟨i, j, e1, e2, q⟩) (fun _ _ _ _ => .int _)
  fun x y m R h => by
    unfold oSub at h
    split at h
    · exact ⟨_, _, rfl, rfl, trivial, h⟩
    · exact h.elim
theorem op_mulA : OpR X (binaryOp .Mult) (rI MulOk fun i j => .int (i * j)) := fun pins s σ H x y v u Q I rx ry ⟨i, j, e1, e2, c, q⟩ => by
  rcases c with c | c
  · exact op_mul pins s σ H x y v u Q I rx ry ⟨i, j, e1, e2, c, q⟩
  · exact op_mulW pins s σ H x y v u Q I rx ry ⟨i, j, e1, e2, c, q⟩
theorem opw_div : OpW X (binaryOp .FloorDiv) oDiv := opw_int op_fdivW (h' := fun i j => .int (i / j)) (fun _ _ _ _ => .int _) fun x y m R h => by
  unfold oDiv at h
  split at h
  · exact ⟨_, _, rfl, rfl, h.1, h.2⟩
  · exact h.elim
theorem opw_mod : OpW X (binaryOp .Mod) oMod := opw_int op_mod (h' := fun i j => .int (i % j)) (fun _ _ _ _ => .int _) fun x y m R h => by
  unfold oMod at h
  split at h
  · exact ⟨_, _, rfl, rfl, h.1, h.2⟩
  · exact h.elim
theorem opw_pow : OpW X (binaryOp .Pow) oPow := opw_int op_pow (h' := fun i j => .int (i ^ j.toNat)) (fun _ _ _ _ => .int _) fun x y m R h => by
  unfold oPow at h
  split at h
  · exact ⟨_, _, rfl, rfl, h.1, h.2⟩
  · exact h.elim
/-- the new thing of a level below -/
theorem new_tup {g : GE} {as : AS} {H : Hp} {m : Sto} {R : WR} {Q : VK} {ws : List W} {vs : List V} (sr : SR g as H m) (r : RelWs g as H ws vs)
    (ok : ∀ w m' v H' as', Fr as as' H H' → SR g as' H' m' → RelW g as' H' w v → R w m' → Q v H') (q : R (.tup ws) m) : NewT Q H vs := fun p ob _ hd hp =>
  ok _ m _ _ as (Fr.new hp) (sr.new hp) (.tup (sr.out hp) upd_same hd (r.fr (Fr.new hp))) q
theorem new_lst {g : GE} {as : AS} {H : Hp} {m : Sto} {R : WR} {Q : VK} {ws : List W} {vs : List V} {p : Addr} (sr : SR g as H m) (r : RelWs g as H ws vs)
    (ok : ∀ w m' v H' as', Fr as as' H H' → SR g as' H' m' → RelW g as' H' w v → R w m' → Q v H') (q : R (.lst ws) m) (hp : H p = none) : Q (.ref p) (upd H p (.lst vs)) :=
  ok _ m _ _ as (Fr.new hp) (sr.new hp) (.lst (sr.out hp) upd_same (r.fr (Fr.new hp))) q
theorem opw_add : OpW X (binaryOp .Add) oAdd := by
  intro pins s σ H x y v u Q I rx ry ⟨as, wx, wy, m, R, sr, r1, r2, q, ok⟩
  have lists : (match lstOfT m wx, lstOfT m wy with
    | some a, some b => a.length + b.length ≤ sizeLine ∧ R (.lst (a ++ b)) m
    | _, _ => False) → wpAny (model X.prog X.w) X.A (binaryOp .Add v u) (EP X pins σ Q) X.xe s := fun q => by
    cases e1 : lstOfT m wx with
    | none => rw [e1] at q; exact q.elim
    | some l1 =>
      cases e2 : lstOfT m wy with
      | none => rw [e1, e2] at q; exact q.elim
      | some l2 =>
        rw [e1, e2] at q
        obtain ⟨a, vs, h1, h2, h3⟩ := relLT sr r1 e1
        obtain ⟨b, us, k1, k2, k3⟩ := relLT sr r2 e2
        exact op_cat pins s σ H x y v u Q I rx ry ⟨a, b, vs, us, h1, k1, h2, k2, by rw [← h3.length, ← k3.length]; exact q.1, fun p hp => new_lst sr (h3.append k3) ok q.2 hp⟩
  cases wx with
  | int i =>
    cases wy with
    | int j => exact op_add pins s σ H x y v u Q I rx ry ⟨i, j, relInt r1, relInt r2, ok _ m _ H as (Fr.refl _ _) sr (.int _) q⟩
    | _ => exact lists q
  | str i =>
    cases wy with
    | str j => exact op_add_str pins s σ H x y v u Q I rx ry ⟨i, j, relStr r1, relStr r2, q.1, ok _ m _ H as (Fr.refl _ _) sr (.str _) q.2⟩
    | _ => exact lists q
  | tup l1 =>
    cases wy with
    | tup l2 =>
      obtain ⟨a, vs, h1, h2, h0, h3⟩ := relT r1
      obtain ⟨b, us, k1, k2, k0, k3⟩ := relT r2
      have q : l1.length + l2.length ≤ sizeLine ∧ R (.tup (l1 ++ l2)) m := q
      refine op_catF pins s σ H x y v u Q I rx ry ⟨a, b, vs, us, h1, k1, .inl h2, .inl k2, by rw [← h3.length, ← k3.length]; exact q.1, fun z => ?_, fun z1 z2 => ?_, fun _ _ => new_tup sr (h3.append k3) ok q.2⟩
      · subst z
        have e : l1 = [] := List.length_eq_zero_iff.mp (by rw [h3.length]; rfl)
        subst e
        exact ok _ m _ H as (Fr.refl _ _) sr (by rw [← k1]; simpa using r2) q.2
      · subst z2
        have e : l2 = [] := List.length_eq_zero_iff.mp (by rw [k3.length]; rfl)
        subst e
        exact ok _ m _ H as (Fr.refl _ _) sr (by rw [← h1]; simpa using r1) q.2
    | _ => exact lists q
  | _ => exact lists q
theorem opw_mul : OpW X (binaryOp .Mult) oMul := by
  intro pins s σ H x y v u Q I rx ry ⟨as, wx, wy, m, R, sr, r1, r2, q, ok⟩
  cases wy with
  | int k =>
    have lists : (match lstOfT m wx with
      | some l => -(2 ^ 63) ≤ k ∧ k < 2 ^ 63 ∧ l.length * k.toNat ≤ sizeLine ∧ R (.lst (List.replicate k.toNat l).flatten) m
      | none => False) → wpAny (model X.prog X.w) X.A (binaryOp .Mult v u) (EP X pins σ Q) X.xe s := fun q => by
      cases e1 : lstOfT m wx with
      | none => rw [e1] at q; exact q.elim
      | some l =>
        rw [e1] at q
        obtain ⟨a, vs, h1, h2, h3⟩ := relLT sr r1 e1
        exact op_rep pins s σ H x y v u Q I rx ry ⟨a, k, vs, h1, relInt r2, h2, q.1, q.2.1, by rw [← h3.length]; exact q.2.2.1, fun p hp => new_lst sr (h3.rep _) ok q.2.2.2 hp⟩
    cases wx with
    | int i => exact op_mulA pins s σ H x y v u Q I rx ry ⟨i, k, relInt r1, relInt r2, q.1, ok _ m _ H as (Fr.refl _ _) sr (.int _) q.2⟩
    | tup l =>
      obtain ⟨a, vs, h1, h2, h0, h3⟩ := relT r1
      have q : l ≠ [] ∧ 2 ≤ k ∧ k ≤ 1000 ∧ l.length ≤ 1000 ∧ R (.tup (List.replicate k.toNat l).flatten) m := q
      refine op_repF pins s σ H x y v u Q I rx ry ⟨a, k, vs, h1, relInt r2, .inl h2, fun z => q.1 ?_, q.2.1, q.2.2.1, by rw [← h3.length]; exact q.2.2.2.1, new_tup sr (h3.rep _) ok q.2.2.2.2⟩
      subst z
      exact List.length_eq_zero_iff.mp (by rw [h3.length]; rfl)
    | str z =>
      have q : 0 ≤ k ∧ k ≤ 1000 ∧ z.length ≤ 1000 ∧ R (.str (repS z k.toNat)) m := q
      exact op_repS pins s σ H x y v u Q I rx ry ⟨z, k, relStr r1, relInt r2, q.1, q.2.1, q.2.2.1, ok _ m _ H as (Fr.refl _ _) sr (.str _) q.2.2.2⟩
    | _ => exact lists q
  | _ => cases wx <;> exact q.elim

/-- < and its kin: ints, texts -/
def oLt : WO := fun x y m R => match x, y with
  | .int i, .int j => R (.bl (decide (i < j))) m
  | .str i, .str j => R (.bl (decide (i.cps.toList < j.cps.toList))) m
  | _, _ => False
def oLe : WO := fun x y m R => match x, y with
  | .int i, .int j => R (.bl (decide (i ≤ j))) m
  | .str i, .str j => R (.bl (!decide (j.cps.toList < i.cps.toList))) m
  | _, _ => False
def oGt : WO := fun x y m R => oLt y x m R
def oGe : WO := fun x y m R => oLe y x m R
theorem opw_lt : OpW X (compareOp .Lt) oLt := by
  intro pins s σ H x y v u Q I rx ry ⟨as, wx, wy, m, R, sr, r1, r2, q, ok⟩
  unfold oLt at q
  split at q
  · exact op_lt pins s σ H x y v u Q I rx ry ⟨_, _, relInt r1, relInt r2, ok _ m _ H as (Fr.refl _ _) sr (.bl _) q⟩
  · exact op_lt_str pins s σ H x y v u Q I rx ry ⟨_, _, relStr r1, relStr r2, ok _ m _ H as (Fr.refl _ _) sr (.bl _) q⟩
  · exact q.elim
theorem opw_le : OpW X (compareOp .LtE) oLe := by
  intro pins s σ H x y v u Q I rx ry ⟨as, wx, wy, m, R, sr, r1, r2, q, ok⟩
  unfold oLe at q
  split at q
  · exact op_le pins s σ H x y v u Q I rx ry ⟨_, _, relInt r1, relInt r2, ok _ m _ H as (Fr.refl _ _) sr (.bl _) q⟩
  · exact op_le_str pins s σ H x y v u Q I rx ry ⟨_, _, relStr r1, relStr r2, ok _ m _ H as (Fr.refl _ _) sr (.bl _) q⟩
  · exact q.elim
theorem opw_gt : OpW X (compareOp .Gt) oGt := by
  intro pins s σ H x y v u Q I rx ry ⟨as, wx, wy, m, R, sr, r1, r2, q, ok⟩
  unfold oGt oLt at q
  split at q
  · exact op_gt pins s σ H x y v u Q I rx ry ⟨_, _, relInt r1, relInt r2, ok _ m _ H as (Fr.refl _ _) sr (.bl _) q⟩
  · exact op_gt_str pins s σ H x y v u Q I rx ry ⟨_, _, relStr r1, relStr r2, ok _ m _ H as (Fr.refl _ _) sr (.bl _) q⟩
  · exact q.elim
theorem opw_ge : OpW X (compareOp .GtE) oGe := by
  intro pins s σ H x y v u Q I rx ry ⟨as, wx, wy, m, R, sr, r1, r2, q, ok⟩
  unfold oGe oLe at q
  split at q
  · exact op_ge pins s σ H x y v u Q I rx ry ⟨_, _, relInt r1, relInt r2, ok _ m _ H as (Fr.refl _ _) sr (.bl _) q⟩
  · exact op_ge_str pins s σ H x y v u Q I rx ry ⟨_, _, relStr r1, relStr r2, ok _ m _ H as (Fr.refl _ _) sr (.bl _) q⟩
  · exact q.elim

mutual
/-- a value as data -/
def snap0 : W → Option PyData
  | .non => some .none
  | .bl b => some (.bool b)
  | .int i => some (.int i)
  | .str x => some (.str x)
  | .tup l => (match snaps l with
    | some ds => some (.tuple ds)
    | none => none)
  | .lst l => (match snaps l with
    | some ds => some (.list ds)
    | none => none)
  | .fzl l => (match snaps l with
    | some ds => some (.list ds)
    | none => none)
  | .tpu _ => none
  | .dct _ => none
  | .ref _ => none
  | .fnv _ _ _ _ _ => none
  | .exv _ _ => none
def snaps : List W → Option (List PyData)
  | [] => some []
  | w :: ws => (match snap0 w, snaps ws with
    | some d, some ds => some (d :: ds)
    | _, _ => none)
end
def snap (m : Sto) : W → Option PyData
  | .ref n => (match m[n]? with
    | some (.lst l) => (match snaps l with
      | some ds => some (.list ds)
      | none => none)
    | _ => none)
  | w => snap0 w
mutual
theorem snap0_dp {g : GE} {as : AS} {H : Hp} : ∀ (w : W) {v : V} {d : PyData}, RelW g as H w v → snap0 w = some d → Dp g.K H v d
  | .non, _, _, r, e => by cases r; cases e; exact .non
  | .bl b, _, _, r, e => by cases r; cases e; exact .bl b
  | .int i, _, _, r, e => by cases r; cases e; exact .int i
  | .str x, _, _, r, e => by cases r; cases e; exact .str x
  | .tup l, _, d, r, e => by
    cases r with
    | tup h1 h2 h3 h4 =>
      unfold snap0 at e
      cases q : snaps l with
      | none => rw [q] at e; cases e
      | some ds =>
        rw [q] at e; cases e
        exact .tup (.inl (.inr ⟨_, h2⟩)) (snaps_dp l h4 q)
  | .lst l, _, d, r, e => by
    cases r with
    | lst h1 h2 h3 =>
      unfold snap0 at e
      cases q : snaps l with
      | none => rw [q] at e; cases e
      | some ds =>
        rw [q] at e; cases e
        exact .lst (.inl (.inl h2)) (snaps_dp l h3 q)
  | .fzl l, _, d, r, e => by
    cases r with
    | fzl h1 h2 h3 =>
      unfold snap0 at e
      cases q : snaps l with
      | none => rw [q] at e; cases e
      | some ds =>
        rw [q] at e; cases e
        exact .lst (.inl (.inr ⟨_, h2⟩)) (snaps_dp l h3 q)
    | fzlK h1 h3 =>
      unfold snap0 at e
      cases q : snaps l with
      | none => rw [q] at e; cases e
      | some ds =>
        rw [q] at e; cases e
        exact .lst (.inr h1) (snaps_dp l h3 q)
  | .tpu _, _, _, _, e => by cases e
  | .dct _, _, _, _, e => by cases e
  | .ref _, _, _, _, e => by cases e
  | .fnv _ _ _ _ _, _, _, _, e => by cases e
  | .exv _ _, _, _, _, e => by cases e
theorem snaps_dp {g : GE} {as : AS} {H : Hp} : ∀ (ws : List W) {vs : List V} {ds : List PyData}, RelWs g as H ws vs → snaps ws = some ds → DpAll g.K H vs ds
  | [], _, _, r, e => by cases r; cases e; exact .nil
  | w :: ws, _, ds, r, e => by
    cases r with
    | cons a t =>
      unfold snaps at e
      cases q1 : snap0 w with
      | none => rw [q1] at e; cases e
      | some d1 =>
        cases q2 : snaps ws with
        | none => rw [q1, q2] at e; cases e
        | some d2 =>
          rw [q1, q2] at e; cases e
          exact .cons (snap0_dp w a q1) (snaps_dp ws t q2)
end
theorem snap_dp {g : GE} {as : AS} {H : Hp} {m : Sto} (s : SR g as H m) {w : W} {v : V} {d : PyData} (r : RelW g as H w v) (e : snap m w = some d) : Dp g.K H v d := by
  by_cases hr : ∃ n, w = .ref n
  · obtain ⟨n, rfl⟩ := hr
    simp only [snap] at e
    cases q : m[n]? with
    | none => rw [q] at e; cases e
    | some o =>
      rw [q] at e
      cases o with
      | lst l =>
        cases q2 : snaps l with
        | none => simp [q2] at e
        | some ds =>
          simp [q2] at e
          subst e
          obtain ⟨a, rfl, h1, vs, h2, h3⟩ := relRef s r q
          exact .lst (.inl (.inl h2)) (snaps_dp l h3 q2)
      | _ => cases e
  · refine snap0_dp w r ?_
    cases w <;> first | exact e | exact absurd ⟨_, rfl⟩ hr
/-- == of two flat values of the kinds that are served -/
def scalW : W → W → Option Bool
  | .non, .non => some true | .non, .int _ => some false | .int _, .non => some false | .non, .bl _ => some false | .bl _, .non => some false | .non, .str _ => some false | .str _, .non => some false
  | .int i, .int j => some (decide (i = j)) | .bl a, .bl b => some (decide (a = b)) | .str x, .str y => some (decide (x = y))
  | .int _, .str _ => some false | .str _, .int _ => some false | .bl _, .str _ => some false | .str _, .bl _ => some false
  | _, _ => none
theorem scalW_ok {g : GE} {as : AS} {H : Hp} {w1 w2 : W} {v1 v2 : V} {b : Bool} (r1 : RelW g as H w1 v1) (r2 : RelW g as H w2 v2) (e : scalW w1 w2 = some b) : scal v1 v2 = true ∧ decide (v1 = v2) = b := by
  cases r1 <;> cases r2 <;> first
    | (cases e; done)
    | (cases e; exact ⟨rfl, by simp⟩)
    | (cases e; exact ⟨rfl, rfl⟩)
def oEq (neg : Bool) : WO := fun x y m R => match scalW x y with
  | some b => R (.bl (b ^^ neg)) m
  | none => (match snap m x, snap m y with
    | some d, some e => SeqAt.shaped d = true ∧ SeqAt.shaped e = true ∧ R (.bl (PyData.eqv d e ^^ neg)) m
    | _, _ => False)
theorem opw_eq (hu : X.A.units + 64 < cLine) : OpW X (compareOp .Eq) (oEq false) := by
  intro pins s σ H x y v u Q I rx ry ⟨as, wx, wy, m, R, sr, r1, r2, q, ok⟩
  unfold oEq at q
  cases e : scalW wx wy with
  | some b =>
    rw [e] at q
    obtain ⟨h1, h2⟩ := scalW_ok r1 r2 e
    refine op_eq pins s σ H x y v u Q I rx ry ⟨h1, ok _ m _ H as (Fr.refl _ _) sr ?_ q⟩
    rw [h2, Bool.xor_false]; exact .bl _
  | none =>
    rw [e] at q
    cases e1 : snap m wx with
    | none => simp [e1] at q
    | some d1 =>
      cases e2 : snap m wy with
      | none => simp [e1, e2] at q
      | some d2 =>
        simp only [e1, e2] at q
        refine op_eqD hu pins s σ H x y v u Q I rx ry ⟨d1, d2, snap_dp sr r1 e1, snap_dp sr r2 e2, q.1, q.2.1, ok _ m _ H as (Fr.refl _ _) sr ?_ q.2.2⟩
        rw [Bool.xor_false]; exact .bl _
theorem opw_ne (hu : X.A.units + 64 < cLine) : OpW X (compareOp .NotEq) (oEq true) := by
  intro pins s σ H x y v u Q I rx ry ⟨as, wx, wy, m, R, sr, r1, r2, q, ok⟩
  unfold oEq at q
  cases e : scalW wx wy with
  | some b =>
    rw [e] at q
    obtain ⟨h1, h2⟩ := scalW_ok r1 r2 e
    refine op_ne pins s σ H x y v u Q I rx ry ⟨h1, ok _ m _ H as (Fr.refl _ _) sr ?_ q⟩
    rw [h2, Bool.xor_true]; exact .bl _
  | none =>
    rw [e] at q
    cases e1 : snap m wx with
    | none => simp [e1] at q
    | some d1 =>
      cases e2 : snap m wy with
      | none => simp [e1, e2] at q
      | some d2 =>
        simp only [e1, e2] at q
        refine op_neD hu pins s σ H x y v u Q I rx ry ⟨d1, d2, snap_dp sr r1 e1, snap_dp sr r2 e2, q.1, q.2.1, ok _ m _ H as (Fr.refl _ _) sr ?_ q.2.2⟩
        rw [Bool.xor_true]; exact .bl _
end
end FW

namespace FW
open PySem PySem.Spec L2
def isNonW : W → Bool
  | .non => true
  | _ => false
def oIs (neg : Bool) : WO := fun x y m R => match y with
  | .non => R (.bl (isNonW x ^^ neg)) m
  | .bl b => (match x with
    | .bl a => R (.bl (decide (a = b) ^^ neg)) m
    | _ => False)
  | _ => False
section
variable {X : Cx}
theorem isNon_rel {g : GE} {as : AS} {H : Hp} {w : W} {v : V} (r : RelW g as H w v) : decide (v = .non) = isNonW w := by
  cases r <;> rfl
theorem opw_is : OpW X (compareOp .Is) (oIs false) := by
  intro pins s σ H x y v u Q I rx ry ⟨as, wx, wy, m, R, sr, r1, r2, q, ok⟩
  unfold oIs at q
  split at q
  · refine op_isN pins s σ H x y v u Q I rx ry ⟨relNon r2, ok _ m _ H as (Fr.refl _ _) sr ?_ q⟩
    rw [isNon_rel r1, Bool.xor_false]; exact .bl _
  · split at q
    · refine op_isBl pins s σ H x y v u Q I rx ry ⟨_, _, relBl r1, relBl r2, ok _ m _ H as (Fr.refl _ _) sr ?_ q⟩
      rw [Bool.xor_false]; exact .bl _
    · exact q.elim
  · exact q.elim
theorem opw_isnot : OpW X (compareOp .IsNot) (oIs true) := by
  intro pins s σ H x y v u Q I rx ry ⟨as, wx, wy, m, R, sr, r1, r2, q, ok⟩
  unfold oIs at q
  split at q
  · refine op_notN pins s σ H x y v u Q I rx ry ⟨relNon r2, ok _ m _ H as (Fr.refl _ _) sr ?_ q⟩
    rw [isNon_rel r1, Bool.xor_true]; exact .bl _
  · split at q
    · refine op_notBl pins s σ H x y v u Q I rx ry ⟨_, _, relBl r1, relBl r2, ok _ m _ H as (Fr.refl _ _) sr ?_ q⟩
      rw [Bool.xor_true]; exact .bl _
    · exact q.elim
  · exact q.elim

/-- == of flat values -/
def eqF : W → W → Bool
  | .non, .non => true
  | .bl a, .bl b => a == b
  | .bl a, .int b => (if a then 1 else 0) == b
  | .int a, .bl b => a == (if b then 1 else 0)
  | .int a, .int b => a == b
  | .str a, .str b => a == b
  | _, _ => false
def isFlat : W → Bool
  | .non => true
  | .bl _ => true
  | .int _ => true
  | .str _ => true
  | _ => false
theorem flat_rel {g : GE} {as : AS} {H : Hp} {w : W} {v : V} (r : RelW g as H w v) (e : isFlat w = true) : flatV v = true := by
  cases r <;> first | rfl | cases e
theorem flats_rel {g : GE} {as : AS} {H : Hp} : ∀ {ws : List W} {vs : List V}, RelWs g as H ws vs → ws.all isFlat = true → vs.all flatV = true
  | _, _, .nil, _ => rfl
  | _, _, .cons a t, e => by
    rw [List.all_cons, Bool.and_eq_true] at e
    rw [List.all_cons, flat_rel a e.1, flats_rel t e.2]; rfl
theorem eqF_rel {g : GE} {as : AS} {H : Hp} {w1 w2 : W} {v1 v2 : V} (r1 : RelW g as H w1 v1) (r2 : RelW g as H w2 v2) (e1 : isFlat w1 = true) (e2 : isFlat w2 = true) : eqV v1 v2 = eqF w1 w2 := by
  cases r1 <;> first | (cases e1; done) | (cases r2 <;> first | (cases e2; done) | rfl)
theorem inV_rel {g : GE} {as : AS} {H : Hp} {w : W} {v : V} (r : RelW g as H w v) (e : isFlat w = true) : ∀ {ws : List W} {vs : List V}, RelWs g as H ws vs → ws.all isFlat = true → inV v vs = ws.any fun z => eqF z w
  | _, _, .nil, _ => rfl
  | _, _, .cons a t, q => by
    rw [List.all_cons, Bool.and_eq_true] at q
    have ih := inV_rel r e t q.2
    unfold inV at ih ⊢
    rw [List.any_cons, List.any_cons, eqF_rel a r q.1 e, ih]
/-- x in l, by what they are as data -/
def inX (neg : Bool) (x : W) (l : List W) (m : Sto) (R : WR) : Prop := match snap m x, snaps l with
  | some d, some ds => SeqAt.shaped d = true ∧ SeqAt.shaped (.list ds) = true ∧ R (.bl ((ds.any fun z => PyData.eqv z d) ^^ neg)) m
  | _, _ => False
def rInX (K : PySem.W.Frag) (neg : Bool) : R2 := fun x y H Q => ∃ d ds, Dp K H x d ∧ (Dp K H y (.list ds) ∨ Dp K H y (.tuple ds)) ∧ SeqAt.shaped d = true ∧ SeqAt.shaped (.list ds) = true ∧ Q (.bl ((ds.any fun z => PyData.eqv z d) ^^ neg)) H
theorem op_inX (hu : X.A.units + 65 < cLine) : OpR X (compareOp .In) (rInX X.K false) := by
  intro pins s σ H x y v u Q I rx ry h
  obtain ⟨d, ds, hd, he, sd, se, q⟩ := h
  obtain ⟨as, r1⟩ := Dp.reads I d x v hd rx
  rw [Bool.xor_false] at q
  rcases he with he | he
  · obtain ⟨bs, r2⟩ := Dp.reads I (.list ds) y u he ry
    exact SeqAt.in_list_reads r2 r1 (SeqAt.canLay_of_shaped se) (SeqAt.canLay_of_shaped sd) (PyProof.Rows.room_in_shaped sd hu) ⟨.bl _, H, I, rfl, q⟩
  · obtain ⟨bs, r2⟩ := Dp.reads I (.tuple ds) y u he ry
    exact SeqAt.in_tuple_reads r2 r1 (SeqAt.canLay_of_shaped se) (SeqAt.canLay_of_shaped sd) (PyProof.Rows.room_in_shaped sd hu) ⟨.bl _, H, I, rfl, q⟩
theorem op_notInX (hu : X.A.units + 65 < cLine) : OpR X (compareOp .NotIn) (rInX X.K true) := by
  intro pins s σ H x y v u Q I rx ry h
  obtain ⟨d, ds, hd, he, sd, se, q⟩ := h
  obtain ⟨as, r1⟩ := Dp.reads I d x v hd rx
  rw [Bool.xor_true] at q
  rcases he with he | he
  · obtain ⟨bs, r2⟩ := Dp.reads I (.list ds) y u he ry
    exact SeqAt.notIn_list_reads r2 r1 (SeqAt.canLay_of_shaped se) (SeqAt.canLay_of_shaped sd) (PyProof.Rows.room_in_shaped sd hu) ⟨.bl _, H, I, rfl, q⟩
  · obtain ⟨bs, r2⟩ := Dp.reads I (.tuple ds) y u he ry
    exact SeqAt.notIn_tuple_reads r2 r1 (SeqAt.canLay_of_shaped se) (SeqAt.canLay_of_shaped sd) (PyProof.Rows.room_in_shaped sd hu) ⟨.bl _, H, I, rfl, q⟩
theorem seq_dp {g : GE} {as : AS} {H : Hp} {m : Sto} (s : SR g as H m) {w : W} {v : V} {l : List W} {ds : List PyData} (r : RelW g as H w v) (e : seqOf m w = some l) (e2 : snaps l = some ds) : Dp g.K H v (.list ds) ∨ Dp g.K H v (.tuple ds) := by
  have key : ∀ d, snap m w = some d → d = .list ds ∨ d = .tuple ds → Dp g.K H v (.list ds) ∨ Dp g.K H v (.tuple ds) := fun d h1 h2 => by
    have := snap_dp s r h1
    rcases h2 with rfl | rfl
    · exact .inl this
    · exact .inr this
  cases w with
  | tup l2 =>
    have e' : some l2 = some l := e
    cases e'
    exact key (.tuple ds) (by show snap0 _ = _; unfold snap0; rw [e2]) (.inr rfl)
  | lst l2 =>
    have e' : some l2 = some l := e
    cases e'
    exact key (.list ds) (by show snap0 _ = _; unfold snap0; rw [e2]) (.inl rfl)
  | fzl l2 =>
    have e' : some l2 = some l := e
    cases e'
    exact key (.list ds) (by show snap0 _ = _; unfold snap0; rw [e2]) (.inl rfl)
  | ref n =>
    refine key (.list ds) ?_ (.inl rfl)
    have e' : (match m[n]? with
      | some (.lst l) => some l
      | _ => none) = some l := e
    cases q : m[n]? with
    | none => rw [q] at e'; cases e'
    | some o =>
      rw [q] at e'
      cases o with
      | lst ws =>
        cases e'
        unfold snap
        simp only [q, e2]
      | _ => cases e'
  | _ => cases e
/-- in a dict of the store -/
def inD (neg : Bool) (x y : W) (m : Sto) (R : WR) : Prop := match y, x with
  | .ref n, .str z => (match m[n]? with
    | some (.dct kvs) => R (.bl ((valW kvs (.inr z)).isSome ^^ neg)) m
    | some (.dcl _ _ kvs) => R (.bl ((valW kvs (.inr z)).isSome ^^ neg)) m
    | _ => False)
  | _, _ => False
def oIn (neg : Bool) : WO := fun x y m R => match y with
  | .str z => (match x with
    | .str a => (match a.cps.toList with
      | [c] => R (.bl (decide (c ∈ z.cps.toList) ^^ neg)) m
      | _ => False)
    | _ => False)
  | .dct kvs => (match x with
    | .str z => R (.bl ((valW kvs (.inr z)).isSome ^^ neg)) m
    | _ => False)
  | y => (match seqOf m y with
    | some l => (isFlat x = true ∧ l.all isFlat = true ∧ R (.bl ((l.any fun z => eqF z x) ^^ neg)) m) ∨ ((isFlat x && l.all isFlat) = false ∧ inX neg x l m R)
    | none => inD neg x y m R)
theorem str_one {a : Str} {c : Nat} (h : a.cps.toList = [c]) : a = ⟨#[c]⟩ := by
  obtain ⟨cps⟩ := a
  have : cps = #[c] := by
    apply Array.toList_inj.mp
    exact h
  rw [this]
/-- a dict that is plain data: tracked with text keys, or of the written part; now the written one alone -/
theorem opw_in_any {op : CmpOp} {neg : Bool} (h1 : OpR X (compareOp op) (rIn X.K neg)) (h2 : OpR X (compareOp op) (fun x y H Q => ∃ (c : Nat) (z : Str), x = .str ⟨#[c]⟩ ∧ y = .str z ∧ Q (.bl (decide (c ∈ z.cps.toList) ^^ neg)) H))
    (h3 : ∀ d es n, KDict X.K X.w d es n → OpR X (compareOp op) (fun x y H Q => ∃ (z : Str) (r : Option Value), x = .str z ∧ y = .ref d ∧ PySem.W.nsIn X.K d z = some r ∧ Q (.bl (r.isSome ^^ neg)) H))
    (h4 : OpR X (compareOp op) (fun x y H Q => ∃ (z : Str) (a : Addr) (kvs : List (Key × V)), x = .str z ∧ y = .ref a ∧ Rd H a (.dK kvs) ∧ Q (.bl ((valV kvs (.inr z)).isSome ^^ neg)) H)) (h5 : OpR X (compareOp op) (rInX X.K neg)) : OpW X (compareOp op) (oIn neg) := by
  intro pins s σ H x y v u Q I rx ry ⟨as, wx, wy, m, R, sr, r1, r2, q, ok⟩
  have seqs : (match seqOf m wy with
    | some l => (isFlat wx = true ∧ l.all isFlat = true ∧ R (.bl ((l.any fun z => eqF z wx) ^^ neg)) m) ∨ ((isFlat wx && l.all isFlat) = false ∧ inX neg wx l m R)
    | none => inD neg wx wy m R) → wpAny (model X.prog X.w) X.A (compareOp op v u) (EP X pins σ Q) X.xe s := fun q => by
    cases e : seqOf m wy with
    | none =>
      rw [e] at q
      replace q : inD neg wx wy m R := q
      cases wy with
      | ref n =>
        cases wx with
        | str z =>
          simp only [inD] at q
          cases em : m[n]? with
          | none => rw [em] at q; exact False.elim q
          | some ob =>
            rw [em] at q
            cases ob with
            | dct kws =>
              cases r2 with
              | @ref _ a ea =>
                obtain ⟨kv2, he, hk⟩ := sr.ok n a _ ea em
                refine h4 pins s σ H x _ v u Q I rx ry ⟨z, a, kv2, relStr r1, rfl, .inl he, ?_⟩
                have e4 : (valV kv2 (.inr z)).isSome = (valW kws (.inr z)).isSome := by
                  rcases hk.val (k := .inr z) with ⟨h5, h6⟩ | ⟨w0, v0, h5, h6, _⟩ <;> rw [h5, h6] <;> rfl
                rw [e4]
                exact ok _ m _ H as (Fr.refl _ _) sr (.bl _) q
            | dcl o2 kv2 kws =>
              cases r2 with
              | @ref _ a ea =>
                obtain ⟨he, hk⟩ := sr.ok n a _ ea em
                refine h4 pins s σ H x _ v u Q I rx ry ⟨z, a, kv2, relStr r1, rfl, .inr ⟨o2, he⟩, ?_⟩
                have e4 : (valV kv2 (.inr z)).isSome = (valW kws (.inr z)).isSome := by
                  rcases hk.val (k := .inr z) with ⟨h5, h6⟩ | ⟨w0, v0, h5, h6, _⟩ <;> rw [h5, h6] <;> rfl
                rw [e4]
                exact ok _ m _ H as (Fr.refl _ _) sr (.bl _) q
            | _ => exact False.elim q
        | _ => exact False.elim q
      | _ => exact False.elim (by simpa [inD] using q)
    | some l =>
      rw [e] at q
      rcases q with q | ⟨_, q⟩
      rotate_left 1
      · unfold inX at q
        split at q
        · rename_i d ds e1 e2
          obtain ⟨q1, q2, q3⟩ := q
          exact h5 pins s σ H x y v u Q I rx ry ⟨d, ds, snap_dp sr r1 e1, seq_dp sr r2 e e2, q1, q2, ok _ m _ H as (Fr.refl _ _) sr (.bl _) q3⟩
        · exact q.elim
      obtain ⟨a, vs, k1, k2, k3⟩ := relSeq sr r2 e
      refine h1 pins s σ H x y v u Q I rx ry ⟨a, vs, k1, k2, flat_rel r1 q.1, flats_rel k3 q.2.1, ?_⟩
      have e2 := inV_rel r1 q.1 k3 q.2.1
      have e3 : (if neg = true then !inV x vs else inV x vs) = ((l.any fun z => eqF z wx) ^^ neg) := by
        rw [e2]; cases neg <;> simp
      rw [e3]
      exact ok _ m _ H as (Fr.refl _ _) sr (.bl _) q.2.2
  cases wy with
  | str z =>
    cases wx with
    | str a =>
      simp only [oIn] at q
      split at q
      · rename_i c hc
        have ea := str_one hc
        subst ea
        exact h2 pins s σ H x y v u Q I rx ry ⟨c, z, relStr r1, relStr r2, ok _ m _ H as (Fr.refl _ _) sr (.bl _) q⟩
      · exact q.elim
    | _ => exact q.elim
  | dct kvs =>
    cases wx with
    | str z =>
      have q : R (.bl ((valW kvs (.inr z)).isSome ^^ neg)) m := q
      cases r2 with
      | @dctK a _ kd =>
        obtain ⟨⟨es, n, D⟩, f⟩ := kd
        obtain ⟨r, e1, e2, e3⟩ := f z
        refine h3 a es n D pins s σ H x _ v u Q I rx ry ⟨z, r, relStr r1, rfl, e1, ?_⟩
        have e4 : r.isSome = (valW kvs (.inr z)).isSome := by
          cases r with
          | none => simp [e2 rfl]
          | some w =>
            obtain ⟨i, e5, _⟩ := e3 w rfl
            rw [e5]
            rfl
        rw [e4]
        exact ok _ m _ H as (Fr.refl _ _) sr (.bl _) q
      | @dct a kv2 _ hn he hk =>
        refine h4 pins s σ H x _ v u Q I rx ry ⟨z, a, kv2, relStr r1, rfl, .inl he, ?_⟩
        have e4 : (valV kv2 (.inr z)).isSome = (valW kvs (.inr z)).isSome := by
          rcases hk.val (k := .inr z) with ⟨h5, h6⟩ | ⟨w0, v0, h5, h6, _⟩ <;> rw [h5, h6] <;> rfl
        rw [e4]
        exact ok _ m _ H as (Fr.refl _ _) sr (.bl _) q
    | _ => exact q.elim
  | _ => exact seqs q
theorem op_in_dk {neg : Bool} {op : CmpOp} (hop : (op = .In ∧ neg = false) ∨ (op = .NotIn ∧ neg = true)) (hu : X.A.units + 1 < cLine) : OpR X (compareOp op) (fun x y H Q => ∃ (z : Str) (a : Addr) (kvs : List (Key × V)), x = .str z ∧ y = .ref a ∧ Rd H a (.dK kvs) ∧ Q (.bl ((valV kvs (.inr z)).isSome ^^ neg)) H) := by
  intro pins s σ H x y v u Q I rx ry ⟨z, a, kvs, e1, e2, e3, q⟩
  subst e1 e2
  obtain rfl : u = Value.ref a := ry
  rcases hop with ⟨rfl, rfl⟩ | ⟨rfl, rfl⟩
  · exact d_in hu I (Or.inl ⟨kvs, Sum.inr z, e3, rfl, rfl⟩ : DGet H a (kV (Sum.inr z)) (valV kvs (Sum.inr z))) rx fun s3 I3 => ⟨.bl _, H, I3, rfl, by rw [Bool.xor_false] at q; exact q⟩
  · exact d_notIn hu I (Or.inl ⟨kvs, Sum.inr z, e3, rfl, rfl⟩ : DGet H a (kV (Sum.inr z)) (valV kvs (Sum.inr z))) rx fun s3 I3 => ⟨.bl _, H, I3, rfl, by rw [Bool.xor_true] at q; exact q⟩
theorem opw_in (hu : X.A.units + 65 < cLine) : OpW X (compareOp .In) (oIn false) :=
  opw_in_any op_in_seq (fun pins s σ H x y v u Q I rx ry ⟨c, z, e1, e2, q⟩ => op_in_sign pins s σ H x y v u Q I rx ry ⟨c, z, e1, e2, by rw [Bool.xor_false] at q; exact q⟩)
    (fun d es n D pins s σ H x y v u Q I rx ry ⟨z, r, e1, e2, e3, q⟩ => op_in_kd D pins s σ H x y v u Q I rx ry ⟨z, r, e1, e2, e3, by rw [Bool.xor_false] at q; exact q⟩) (op_in_dk (.inl ⟨rfl, rfl⟩) (by omega)) (op_inX hu)
theorem opw_notin (hu : X.A.units + 65 < cLine) : OpW X (compareOp .NotIn) (oIn true) :=
  opw_in_any op_notIn_seq (fun pins s σ H x y v u Q I rx ry ⟨c, z, e1, e2, q⟩ => op_notIn_sign pins s σ H x y v u Q I rx ry ⟨c, z, e1, e2, by rw [Bool.xor_true] at q; exact q⟩)
    (fun d es n D pins s σ H x y v u Q I rx ry ⟨z, r, e1, e2, e3, q⟩ => op_notIn_kd D pins s σ H x y v u Q I rx ry ⟨z, r, e1, e2, e3, by rw [Bool.xor_true] at q; exact q⟩) (op_in_dk (.inr ⟨rfl, rfl⟩) (by omega)) (op_notInX hu)

def truW (m : Sto) : W → Option Bool
  | .non => some false
  | .bl b => some b
  | .int i => some (i != 0)
  | .str x => if x.length ≤ sizeLine then some ((x.length : Int) != 0) else none
  | .dct _ => none
  | w => (match seqOf m w with
    | some l => some (!l.isEmpty)
    | none => none)
theorem truW_rel {g : GE} {as : AS} {H : Hp} {m : Sto} {w : W} {v : V} {b : Bool} (s : SR g as H m) (r : RelW g as H w v) (e : truW m w = some b) : TruV g.K v H b := by
  have seqs : (match seqOf m w with
    | some l => some (!l.isEmpty)
    | none => none) = some b → TruV g.K v H b := fun e => by
    cases q : seqOf m w with
    | none => rw [q] at e; cases e
    | some l =>
      rw [q] at e; cases e
      obtain ⟨a, vs, rfl, h2, h3⟩ := relSeq s r q
      have e4 : (!l.isEmpty) = !vs.isEmpty := by
        have := h3.length
        cases l <;> cases vs <;> first | rfl | simp at this
      rcases h2 with h2 | h2
      · exact .inl ⟨vs, h2, e4⟩
      · exact .inr (.inl ⟨vs, h2, e4⟩)
  cases w with
  | non => cases r; cases e; rfl
  | bl b => cases r; cases e; rfl
  | int i => cases r; cases e; rfl
  | str x =>
    cases r
    simp only [truW] at e
    split at e
    · cases e; exact ⟨by assumption, rfl⟩
    · cases e
  | dct _ => cases e
  | tup _ => exact seqs e
  | tpu _ => exact seqs e
  | lst _ => exact seqs e
  | fzl _ => exact seqs e
  | ref _ => exact seqs e
  | fnv _ _ _ _ _ => exact seqs e
  | exv _ _ => exact seqs e
def tyW (m : Sto) : W → Option String
  | .non => some "NoneType"
  | .bl _ => some "bool"
  | .int _ => some "int"
  | .str _ => some "str"
  | .tup _ => some "tuple"
  | .tpu _ => none
  | .lst _ => some "list"
  | .fzl _ => some "list"
  | .dct _ => some "dict"
  | .ref n => (match m[n]? with
    | some (.lst _) => some "list"
    | some (.dct _) => some "dict"
    | some (.dcl _ _ _) => some "dict"
    | some (.dtc _) => some "dict"
    | _ => none)
  | .fnv _ _ _ _ _ => none
  | .exv _ _ => none
theorem tyW_rel {g : GE} {as : AS} {H : Hp} {m : Sto} {w : W} {v : V} {t : String} (s : SR g as H m) (r : RelW g as H w v) (e : tyW m w = some t) : TyX g.K H v (.type t) := by
  cases r with
  | non => cases e; exact .base .non
  | bl b => cases e; exact .base (.bl b)
  | int i => cases e; exact .base (.int i)
  | str x => cases e; exact .base (.str x)
  | tup h1 h2 h3 h4 => cases e; exact .fTuple h2
  | tpu h1 h2 h3 => cases e
  | lst h1 h2 h3 => cases e; exact .base (.lst h2)
  | fzl h1 h2 h3 => cases e; exact .base (.frz h2)
  | fzlK h1 h3 => cases e; obtain ⟨o, its, n, k1, k2, _⟩ := h1; exact .kList k1 k2
  | dct h1 h2 h3 => cases e; exact .base (.dK h2)
  | dctK kd => cases e; obtain ⟨⟨es, n, D⟩, _⟩ := kd; exact .kDict D.at_ rfl
  | @ref n a h =>
    simp only [tyW] at e
    split at e
    · rename_i l q
      cases e
      obtain ⟨vs, h1, _⟩ := s.ok n a _ h q
      exact .base (.lst h1)
    · rename_i l q
      cases e
      obtain ⟨vs, h1, _⟩ := s.ok n a _ h q
      exact .base (.dK h1)
    · rename_i l q
      cases e
      obtain ⟨h1, _⟩ := s.ok n a _ h q
      exact .fDict h1
    · rename_i l q
      cases e
      obtain ⟨vs, h1, _⟩ := s.ok n a _ h q
      exact .base (.dT h1)
    · cases e
  | fnv _ _ _ => cases e
  | exv _ => cases e
def isiB (a b : String) : Bool := a == b || (a == "bool" && b == "int")
def tyAll : List String := ["NoneType", "bool", "int", "str", "tuple", "list", "dict"]
def tyAsk : List String := ["bool", "int", "str", "tuple", "list", "dict"]
theorem isiB_ok : ∀ a ∈ tyAll, ∀ b ∈ tyAsk, kitB a b = some (isiB a b) := by decide +kernel
theorem tyW_all {m : Sto} {w : W} {t : String} (e : tyW m w = some t) : t ∈ tyAll := by
  cases w <;> first
    | (cases e; decide)
    | (cases e; done)
    | (simp only [tyW] at e; split at e <;> first | (cases e; done) | (cases e; decide))
/-- isinstance(x, T), T a built-in class by its name -/
def oIsi (T : String) : W → Sto → WR → Prop := fun w m R => match tyW m w with
  | some t => R (.bl (isiB t T)) m
  | none => False
end
end FW

namespace FW
open PySem PySem.Spec L2
section
variable {X : Cx}
theorem RelWs.one {g : GE} {as : AS} {H : Hp} {w : W} {vs : List V} (r : RelWs g as H [w] vs) : ∃ v, vs = [v] ∧ RelW g as H w v := by
  cases r with
  | cons a t => cases t; exact ⟨_, rfl, a⟩
theorem RelWs.two {g : GE} {as : AS} {H : Hp} {w1 w2 : W} {vs : List V} (r : RelWs g as H [w1, w2] vs) : ∃ v1 v2, vs = [v1, v2] ∧ RelW g as H w1 v1 ∧ RelW g as H w2 v2 := by
  cases r with
  | cons a t =>
    cases t with
    | cons b t2 => cases t2; exact ⟨_, _, rfl, a, b⟩
def lenW (m : Sto) : W → Option Nat
  | .str z => if z.length ≤ sizeLine then some z.length else none
  | .dct _ => none
  | w => (match seqOf m w with
    | some l => some l.length
    | none => none)
def fLen : WF := fun ws m R => match ws with
  | [w] => (match lenW m w with
    | some n => R (.int n) m
    | none => False)
  | _ => False
theorem lenW_rel {g : GE} {as : AS} {H : Hp} {m : Sto} {w : W} {v : V} {n : Nat} (s : SR g as H m) (r : RelW g as H w v) (e : lenW m w = some n) : LenV g.K v H n := by
  have seqs : (match seqOf m w with
    | some l => some l.length
    | none => none) = some n → LenV g.K v H n := fun e => by
    cases q : seqOf m w with
    | none => rw [q] at e; cases e
    | some l =>
      rw [q] at e; cases e
      obtain ⟨a, vs, rfl, h2, h3⟩ := relSeq s r q
      rcases h2 with h2 | h2
      · exact .inl ⟨vs, h2, h3.length⟩
      · exact .inr ⟨vs, h2, h3.length⟩
  cases w with
  | str x =>
    cases r
    simp only [lenW] at e
    split at e
    · cases e; exact ⟨by assumption, rfl⟩
    · cases e
  | dct _ => cases e
  | tup _ => exact seqs e
  | tpu _ => exact seqs e
  | lst _ => exact seqs e
  | fzl _ => exact seqs e
  | ref _ => exact seqs e
  | fnv _ _ _ _ _ => exact seqs e
  | exv _ _ => exact seqs e
  | non => cases e
  | bl _ => cases e
  | int _ => cases e
theorem cw_len : CallW X (.builtin "len") fLen := by
  intro pins s σ H xs us Q I r ⟨as, ws, m, R, sr, rs, q, ok⟩
  unfold fLen at q
  split at q
  · rename_i w
    obtain ⟨v, rfl, r1⟩ := rs.one
    cases e : lenW m w with
    | none => rw [e] at q; exact q.elim
    | some n =>
      rw [e] at q
      exact call_len pins s σ H _ us Q I r ⟨v, n, rfl, lenW_rel sr r1 e, ok _ m _ H as (Fr.refl _ _) sr (.int _) q⟩
  · exact q.elim
def fInt : WF := fun ws m R => match ws with
  | [.int i] => R (.int i) m
  | [.bl b] => R (.int (if b then 1 else 0)) m
  | [.str a] => (match PySem.intText? a with
    | some n => a.length ≤ 640 ∧ R (.int n) m
    | none => False)
  | _ => False
theorem cw_int : CallW X (.type "int") fInt := by
  intro pins s σ H xs us Q I r ⟨as, ws, m, R, sr, rs, q, ok⟩
  unfold fInt at q
  split at q
  · obtain ⟨v, rfl, r1⟩ := rs.one
    rw [relInt r1] at r
    exact call_int1 pins s σ H _ us Q I r (.inl ⟨_, rfl, ok _ m _ H as (Fr.refl _ _) sr (.int _) q⟩)
  · obtain ⟨v, rfl, r1⟩ := rs.one
    rw [relBl r1] at r
    exact call_int1 pins s σ H _ us Q I r (.inr ⟨_, rfl, ok _ m _ H as (Fr.refl _ _) sr (.int _) q⟩)
  · rename_i a
    obtain ⟨v, rfl, r1⟩ := rs.one
    rw [relStr r1] at r
    cases e : PySem.intText? a with
    | none => rw [e] at q; exact q.elim
    | some n =>
      rw [e] at q
      exact call_int_str pins s σ H _ us Q I r ⟨_, n, rfl, e, q.1, ok _ m _ H as (Fr.refl _ _) sr (.int _) q.2⟩
  · exact q.elim
/-- a list of ints -/
def intsW : List W → Option (List Int)
  | [] => some []
  | .int i :: r => (match intsW r with
    | some l => some (i :: l)
    | none => none)
  | _ :: _ => none
theorem intsW_map (ns : List Int) : intsW (ns.map W.int) = some ns := by
  induction ns with
  | nil => rfl
  | cons n r ih => simp [intsW, ih]
theorem intsW_rel {g : GE} {as : AS} {H : Hp} : ∀ {ws : List W} {vs : List V} {ns : List Int}, RelWs g as H ws vs → intsW ws = some ns → vs = ns.map V.int
  | _, _, _, .nil, e => by cases e; rfl
  | _, _, ns, .cons (w := w) (ws := ws) a t, e => by
    cases w with
    | int i =>
      simp only [intsW] at e
      cases q : intsW ws with
      | none => rw [q] at e; cases e
      | some l =>
        rw [q] at e; cases e
        rw [relInt a, intsW_rel t q]; rfl
    | _ => cases e
def boolsW : List W → Option (List Bool)
  | [] => some []
  | .bl i :: r => (match boolsW r with
    | some l => some (i :: l)
    | none => none)
  | _ :: _ => none
theorem boolsW_rel {g : GE} {as : AS} {H : Hp} : ∀ {ws : List W} {vs : List V} {ns : List Bool}, RelWs g as H ws vs → boolsW ws = some ns → vs = ns.map V.bl
  | _, _, _, .nil, e => by cases e; rfl
  | _, _, ns, .cons (w := w) (ws := ws) a t, e => by
    cases w with
    | bl i =>
      simp only [boolsW] at e
      cases q : boolsW ws with
      | none => rw [q] at e; cases e
      | some l =>
        rw [q] at e; cases e
        rw [relBl a, boolsW_rel t q]; rfl
    | _ => cases e
def lintOf (m : Sto) (w : W) : Option (List Int) := match lstOf m w with
  | some l => intsW l
  | none => none
def lblOf (m : Sto) (w : W) : Option (List Bool) := match lstOf m w with
  | some l => boolsW l
  | none => none
theorem lint_rel {g : GE} {as : AS} {H : Hp} {m : Sto} {w : W} {v : V} {ns : List Int} (s : SR g as H m) (r : RelW g as H w v) (e : lintOf m w = some ns) : ∃ a, v = .ref a ∧ SqL g.K H a (ns.map V.int) := by
  unfold lintOf at e
  cases q : lstOf m w with
  | none => rw [q] at e; cases e
  | some l =>
    rw [q] at e
    obtain ⟨a, vs, rfl, h2, h3⟩ := relL s r q
    rw [intsW_rel h3 e] at h2
    exact ⟨a, rfl, h2⟩
theorem lbl_rel {g : GE} {as : AS} {H : Hp} {m : Sto} {w : W} {v : V} {ns : List Bool} (s : SR g as H m) (r : RelW g as H w v) (e : lblOf m w = some ns) : ∃ a, v = .ref a ∧ SqL g.K H a (ns.map V.bl) := by
  unfold lblOf at e
  cases q : lstOf m w with
  | none => rw [q] at e; cases e
  | some l =>
    rw [q] at e
    obtain ⟨a, vs, rfl, h2, h3⟩ := relL s r q
    rw [boolsW_rel h3 e] at h2
    exact ⟨a, rfl, h2⟩
def fSum : WF := fun ws m R => match ws with
  | [w] => (match lintOf m w with
    | some ns => R (.int ns.sum) m
    | none => False)
  | _ => False
def fAny : WF := fun ws m R => match ws with
  | [w] => (match lblOf m w with
    | some ns => R (.bl (ns.any id)) m
    | none => False)
  | _ => False
def fAll : WF := fun ws m R => match ws with
  | [w] => (match lblOf m w with
    | some ns => R (.bl (ns.all id)) m
    | none => False)
  | _ => False
theorem cw_sum (hc : X.calm = true) : CallW X (.builtin "sum") fSum := by
  intro pins s σ H xs us Q I r ⟨as, ws, m, R, sr, rs, q, ok⟩
  unfold fSum at q
  split at q
  · rename_i w
    obtain ⟨v, rfl, r1⟩ := rs.one
    cases e : lintOf m w with
    | none => rw [e] at q; exact q.elim
    | some ns =>
      rw [e] at q
      obtain ⟨a, rfl, h⟩ := lint_rel sr r1 e
      exact cr_sum hc pins s σ H _ us Q I r ⟨a, ns, rfl, h, ok _ m _ H as (Fr.refl _ _) sr (.int _) q⟩
  · exact q.elim
theorem cw_any (hc : X.calm = true) : CallW X (.builtin "any") fAny := by
  intro pins s σ H xs us Q I r ⟨as, ws, m, R, sr, rs, q, ok⟩
  unfold fAny at q
  split at q
  · rename_i w
    obtain ⟨v, rfl, r1⟩ := rs.one
    cases e : lblOf m w with
    | none => rw [e] at q; exact q.elim
    | some ns =>
      rw [e] at q
      obtain ⟨a, rfl, h⟩ := lbl_rel sr r1 e
      exact cr_any hc pins s σ H _ us Q I r ⟨a, ns, rfl, h, ok _ m _ H as (Fr.refl _ _) sr (.bl _) q⟩
  · exact q.elim
theorem cw_all (hc : X.calm = true) : CallW X (.builtin "all") fAll := by
  intro pins s σ H xs us Q I r ⟨as, ws, m, R, sr, rs, q, ok⟩
  unfold fAll at q
  split at q
  · rename_i w
    obtain ⟨v, rfl, r1⟩ := rs.one
    cases e : lblOf m w with
    | none => rw [e] at q; exact q.elim
    | some ns =>
      rw [e] at q
      obtain ⟨a, rfl, h⟩ := lbl_rel sr r1 e
      exact cr_all hc pins s σ H _ us Q I r ⟨a, ns, rfl, h, ok _ m _ H as (Fr.refl _ _) sr (.bl _) q⟩
  · exact q.elim
def lmax : List Int → Int
  | [] => 0
  | [x] => x
  | x :: r => max x (lmax r)
def lmin : List Int → Int
  | [] => 0
  | [x] => x
  | x :: r => min x (lmin r)
theorem lmax_ge : ∀ {l : List Int} {x : Int}, x ∈ l → x ≤ lmax l
  | [], _, h => by cases h
  | [y], x, h => by simp at h; subst h; exact Int.le_refl _
  | y :: z :: r, x, h => by
    show x ≤ max y (lmax (z :: r))
    rcases List.mem_cons.mp h with e | h
    · subst e; exact Int.le_max_left _ _
    · exact Int.le_trans (lmax_ge h) (Int.le_max_right _ _)
theorem lmax_mem : ∀ {l : List Int}, l ≠ [] → lmax l ∈ l
  | [], h => absurd rfl h
  | [y], _ => by simp [lmax]
  | y :: z :: r, _ => by
    show max y (lmax (z :: r)) ∈ y :: z :: r
    by_cases h : lmax (z :: r) ≤ y
    · rw [Int.max_eq_left h]; exact List.mem_cons_self
    · rw [Int.max_eq_right (by omega)]; exact List.mem_cons_of_mem _ (lmax_mem (by simp))
theorem lmin_le : ∀ {l : List Int} {x : Int}, x ∈ l → lmin l ≤ x
  | [], _, h => by cases h
  | [y], x, h => by simp at h; subst h; exact Int.le_refl _
  | y :: z :: r, x, h => by
    show min y (lmin (z :: r)) ≤ x
    rcases List.mem_cons.mp h with e | h
    · subst e; exact Int.min_le_left _ _
    · exact Int.le_trans (Int.min_le_right _ _) (lmin_le h)
theorem lmin_mem : ∀ {l : List Int}, l ≠ [] → lmin l ∈ l
  | [], h => absurd rfl h
  | [y], _ => by simp [lmin]
  | y :: z :: r, _ => by
    show min y (lmin (z :: r)) ∈ y :: z :: r
    by_cases h : y ≤ lmin (z :: r)
    · rw [Int.min_eq_left h]; exact List.mem_cons_self
    · rw [Int.min_eq_right (by omega)]; exact List.mem_cons_of_mem _ (lmin_mem (by simp))
def fMax : WF := fun ws m R => match ws with
  | [.int i, .int j] => R (.int (if j > i then j else i)) m
  | [w] => (match lintOf m w with
    | some ns => ns ≠ [] ∧ R (.int (lmax ns)) m
    | none => False)
  | _ => False
def fMin : WF := fun ws m R => match ws with
  | [.int i, .int j] => R (.int (if j < i then j else i)) m
  | [w] => (match lintOf m w with
    | some ns => ns ≠ [] ∧ R (.int (lmin ns)) m
    | none => False)
  | _ => False
theorem cw_max (hc : X.calm = true) : CallW X (.builtin "max") fMax := by
  intro pins s σ H xs us Q I r ⟨as, ws, m, R, sr, rs, q, ok⟩
  unfold fMax at q
  split at q
  · obtain ⟨v1, v2, rfl, r1, r2⟩ := rs.two
    rw [relInt r1, relInt r2] at r
    exact call_max2 hc pins s σ H _ us Q I r ⟨_, _, rfl, ok _ m _ H as (Fr.refl _ _) sr (.int _) q⟩
  · rename_i w
    obtain ⟨v, rfl, r1⟩ := rs.one
    cases e : lintOf m w with
    | none => rw [e] at q; exact q.elim
    | some ns =>
      rw [e] at q
      obtain ⟨a, rfl, h⟩ := lint_rel sr r1 e
      refine cr_max hc pins s σ H _ us Q I r ⟨a, ns, rfl, h, List.length_pos_iff.mpr q.1, fun k hk hle => ?_⟩
      have ek : k = lmax ns := Int.le_antisymm (lmax_ge hk) (hle _ (lmax_mem q.1))
      rw [ek]
      exact ok _ m _ H as (Fr.refl _ _) sr (.int _) q.2
  · exact q.elim
theorem cw_min (hc : X.calm = true) : CallW X (.builtin "min") fMin := by
  intro pins s σ H xs us Q I r ⟨as, ws, m, R, sr, rs, q, ok⟩
  unfold fMin at q
  split at q
  · obtain ⟨v1, v2, rfl, r1, r2⟩ := rs.two
    rw [relInt r1, relInt r2] at r
    exact call_min2 hc pins s σ H _ us Q I r ⟨_, _, rfl, ok _ m _ H as (Fr.refl _ _) sr (.int _) q⟩
  · rename_i w
    obtain ⟨v, rfl, r1⟩ := rs.one
    cases e : lintOf m w with
    | none => rw [e] at q; exact q.elim
    | some ns =>
      rw [e] at q
      obtain ⟨a, rfl, h⟩ := lint_rel sr r1 e
      refine cr_min hc pins s σ H _ us Q I r ⟨a, ns, rfl, h, List.length_pos_iff.mpr q.1, fun k hk hle => ?_⟩
      have ek : k = lmin ns := Int.le_antisymm (hle _ (lmin_mem q.1)) (lmin_le hk)
      rw [ek]
      exact ok _ m _ H as (Fr.refl _ _) sr (.int _) q.2
  · exact q.elim
def fTuple : WF := fun ws m R => match ws with
  | [w] => (match seqOf m w with
    | some l => R (.tup l) m
    | none => False)
  | _ => False
def fList : WF := fun ws m R => match ws with
  | [w] => (match seqOf m w with
    | some l => R (.lst l) m
    | none => False)
  | _ => False
theorem cw_tuple : CallW X (.type "tuple") fTuple := by
  intro pins s σ H xs us Q I r ⟨as, ws, m, R, sr, rs, q, ok⟩
  unfold fTuple at q
  split at q
  · rename_i w
    obtain ⟨v, rfl, r1⟩ := rs.one
    by_cases ht : ∃ l, w = .tup l
    · obtain ⟨l, rfl⟩ := ht
      obtain ⟨a, vs, rfl, h2, h0, h3⟩ := relT r1
      exact call_tupleF pins s σ H _ us Q I r ⟨a, vs, rfl, .inr ⟨.inl h2, ok _ m _ H as (Fr.refl _ _) sr r1 q⟩⟩
    · have q : (match lstOf m w with
        | some l => R (.tup l) m
        | none => False) := by cases w <;> first | exact q | exact absurd ⟨_, rfl⟩ ht
      cases e : lstOf m w with
      | none => rw [e] at q; exact q.elim
      | some l =>
        rw [e] at q
        obtain ⟨a, vs, rfl, h2, h3⟩ := relL sr r1 e
        exact call_tupleF pins s σ H _ us Q I r ⟨a, vs, rfl, .inl ⟨h2, new_tup sr h3 ok q⟩⟩
  · exact q.elim
theorem cw_list : CallW X (.type "list") fList := by
  intro pins s σ H xs us Q I r ⟨as, ws, m, R, sr, rs, q, ok⟩
  unfold fList at q
  split at q
  · rename_i w
    obtain ⟨v, rfl, r1⟩ := rs.one
    cases e : seqOf m w with
    | none => rw [e] at q; exact q.elim
    | some l =>
      rw [e] at q
      obtain ⟨a, vs, rfl, h2, h3⟩ := relSeq sr r1 e
      exact call_list_of pins s σ H _ us Q I r ⟨a, vs, rfl, h2, fun p hp => new_lst sr h3 ok q hp⟩
  · exact q.elim
end
end FW

namespace FW
open PySem PySem.Spec L2
section
variable {X : Cx} {E : XK} {pos : Pos}
theorem atI_rel {g : GE} {as : AS} {H : Hp} {ws : List W} {vs : List V} {i : Int} {w : W} (r : RelWs g as H ws vs) (e : atI ws i = some w) : ∃ v, atI vs i = some v ∧ RelW g as H w v := by
  unfold atI at e ⊢
  rw [r.length] at e
  cases q : ixN vs.length i with
  | none => rw [q] at e; cases e
  | some j =>
    rw [q] at e
    exact r.get (show ws[j]? = some w from e)
/-- what stands under a key -/
def dctOf (m : Sto) : W → Option (List (Key × W))
  | .dct l => some l
  | .ref n => (match m[n]? with
    | some (.dct l) => some l
    | some (.dcl _ _ l) => some l
    | _ => none)
  | _ => none
def oIx : WO := fun x y m R => match y with
  | .int i => (match x with
    | .str z => z.length ≤ sizeLine ∧ (match atI z.cps.toList i with
      | some c => R (.str ⟨#[c]⟩) m
      | none => False)
    | x => (match seqOf m x with
      | some l => (match atI l i with
        | some w => R w m
        | none => False)
      | none => False))
  | .str z => (match dctOf m x with
    | some kvs => (match valW kvs (.inr z) with
      | some w => R w m
      | none => False)
    | none => False)
  | _ => False
theorem ix_dk (hu : X.A.units + 1 < cLine) : IxR X (fun x y H Q => ∃ a v, x = .ref a ∧ DGet H a y (some v) ∧ Q v H) := by
  intro value slice pins s σ H x y v u Q I rx ry ⟨a, w, e1, g, q⟩ hs
  subst e1
  obtain rfl : v = Value.ref a := rx
  exact PyProof.Rows.tail_any (dict_typeIs I g) PySem.F.slot_dict_getitem.lookup (d_getItem hu I g ry fun w' s3 I3 rw' => ⟨w, H, I3, rw', q⟩) hs
theorem relD {g : GE} {as : AS} {H : Hp} {m : Sto} {w : W} {v : V} {kws : List (Key × W)} (s : SR g as H m) (r : RelW g as H w v) (e : dctOf m w = some kws) :
    ∃ a, v = .ref a ∧ ((∃ kvs, Rd H a (.dK kvs) ∧ RelKs g as H kws kvs) ∨ KD g a kws) := by
  cases r with
  | dct h1 h2 h3 =>
    have e' : some _ = some kws := e
    cases e'; exact ⟨_, rfl, .inl ⟨_, .inl h2, h3⟩⟩
  | dctK kd =>
    have e' : some _ = some kws := e
    cases e'; exact ⟨_, rfl, .inr kd⟩
  | @ref n a h =>
    simp only [dctOf] at e
    split at e
    · rename_i l q
      cases e
      obtain ⟨vs, h1, h2⟩ := s.ok n a _ h q
      exact ⟨a, rfl, .inl ⟨vs, .inl h1, h2⟩⟩
    · rename_i o vs l q
      cases e
      obtain ⟨h1, h2⟩ := s.ok n a _ h q
      exact ⟨a, rfl, .inl ⟨vs, .inr ⟨o, h1⟩, h2⟩⟩
    · cases e
  | _ => cases e
theorem ixw (hu : X.A.units + 1 < cLine) : IxR X (rW (gOf X) oIx) := by
  intro value slice pins s σ H x y v u Q I rx ry ⟨as, wx, wy, m, R, sr, r1, r2, q, ok⟩ hs
  cases wy with
  | int i =>
    have seqs : (match seqOf m wx with
      | some l => (match atI l i with
        | some w => R w m
        | none => False)
      | none => False) → wpAny (model X.prog X.w) X.A (PyProof.Rows.subscriptTail value slice v u) (EP X pins σ Q) X.xe s := fun q => by
      cases e : seqOf m wx with
      | none => rw [e] at q; exact q.elim
      | some l =>
        rw [e] at q
        cases e2 : atI l i with
        | none => simp [e2] at q
        | some w =>
          simp only [e2] at q
          obtain ⟨a, vs, h1, h2, h3⟩ := relSeq sr r1 e
          obtain ⟨z, h4, h5⟩ := atI_rel h3 e2
          have fin := ok w m z H as (Fr.refl _ _) sr h5 q
          refine ix_seq value slice pins s σ H x y v u Q I rx ry ?_ hs
          rcases h2 with h2 | h2
          · exact .inl ⟨a, vs, i, z, h1, relInt r2, h2, h4, fin⟩
          · exact .inr (.inl ⟨a, vs, i, z, h1, relInt r2, h2, h4, fin⟩)
    cases wx with
    | str z =>
      obtain ⟨hz, q⟩ : z.length ≤ sizeLine ∧ (match atI z.cps.toList i with
        | some c => R (.str ⟨#[c]⟩) m
        | none => False) := q
      cases e2 : atI z.cps.toList i with
      | none => simp [e2] at q
      | some c =>
        simp only [e2] at q
        exact ix_seq value slice pins s σ H x y v u Q I rx ry (.inr (.inr ⟨z, i, c, relStr r1, relInt r2, hz, e2, ok _ m _ H as (Fr.refl _ _) sr (.str _) q⟩)) hs
    | _ => exact seqs q
  | str z =>
    have q : (match dctOf m wx with
      | some kvs => (match valW kvs (.inr z) with
        | some w => R w m
        | none => False)
      | none => False) := q
    cases e : dctOf m wx with
    | none => rw [e] at q; exact q.elim
    | some kws =>
      rw [e] at q
      cases e2 : valW kws (.inr z) with
      | none => simp [e2] at q
      | some w =>
        simp only [e2] at q
        obtain ⟨a, rfl, h⟩ := relD sr r1 e
        rcases h with ⟨kvs, h1, h2⟩ | kd
        · rcases h2.val (k := .inr z) with ⟨h5, h6⟩ | ⟨w0, v0, h5, h6, h7⟩
          · rw [h5] at e2; cases e2
          · rw [h5] at e2; cases e2
            rw [relStr r2] at ry
            exact ix_dk hu value slice pins s σ H _ _ v u Q I rx ry ⟨a, v0, rfl, by
              have : DGet H a (kV (Sum.inr z)) (valV kvs (Sum.inr z)) := Or.inl ⟨kvs, Sum.inr z, h1, rfl, rfl⟩
              rw [h6] at this
              exact this, ok _ m _ H as (Fr.refl _ _) sr h7 q⟩ hs
        · obtain ⟨⟨es, n, D⟩, f⟩ := kd
          obtain ⟨r, e3, e4, e5⟩ := f z
          cases r with
          | none => rw [e4 rfl] at e2; cases e2
          | some u0 =>
            obtain ⟨i, e6, e7⟩ := e5 u0 rfl
            rw [e6] at e2; cases e2
            exact ix_kdict value slice pins s σ H _ y v u Q I rx ry ⟨a, z, .int i, rfl, relStr r2, ⟨es, n, u0, D.at_, D.lit, e3, e7⟩, ok _ m _ H as (Fr.refl _ _) sr (.int i) q⟩ hs
  | _ => exact q.elim
theorem w_ix {a b : Expr} {ta tb : WE} (hu : X.A.units + 1 < cLine) (ha : PE X a (tM (gOf X) E ta)) (hb : PE X b (tM (gOf X) E tb)) (hs : PlainIx b) : PE X (.Subscript a b pos) (tM (gOf X) E (wOp oIx ta tb)) :=
  PE_mono (pe_ix (ixw hu) ha hb hs) fun _ _ _ h => top_of h
def cutW (l : List W) (lo hi : Option Int) : List W := (l.drop (HT.sIx l.length 0 lo)).take (HT.sIx l.length l.length hi - HT.sIx l.length 0 lo)
theorem cut_rel {g : GE} {as : AS} {H : Hp} {ws : List W} {vs : List V} (r : RelWs g as H ws vs) (lo hi : Option Int) : RelWs g as H (cutW ws lo hi) (cutV vs lo hi) := by
  unfold cutW cutV
  rw [r.length]
  exact (r.drop _).take _
def oSl : W → Option Int → Option Int → Sto → WR → Prop := fun x lo hi m R => match x with
  | .str z => z.length ≤ sizeLine ∧ R (.str (cutS z lo hi)) m
  | .tup l => R (.tup (cutW l lo hi)) m
  | x => (match lstOf m x with
    | some l => R (.lst (cutW l lo hi)) m
    | none => False)
def rWS (g : GE) (f : W → Option Int → Option Int → Sto → WR → Prop) : V → Option Int → Option Int → Hp → VK → Prop := fun x lo hi H Q => ∃ as wx m R, SR g as H m ∧ RelW g as H wx x ∧ f wx lo hi m R ∧
  ∀ w m' v H' as', Fr as as' H H' → SR g as' H' m' → RelW g as' H' w v → R w m' → Q v H'
theorem cutW_all {l : List W} {lo hi : Option Int} (h : HT.sIx l.length 0 lo = 0 ∧ HT.sIx l.length l.length hi = l.length) : cutW l lo hi = l := by
  unfold cutW
  rw [h.1, h.2]
  simp
theorem slw : SlR X (rWS (gOf X) oSl) := by
  intro pins s σ H x v vl vu lo hi sl Q I rx hs pl pu ⟨as, wx, m, R, sr, r1, q, ok⟩
  have lists : (match lstOf m wx with
      | some l => R (.lst (cutW l lo hi)) m
      | none => False) → ∃ T id, typeLookup (.type T) "__getitem__" = pure (some (.builtin id)) ∧ s.TypeIs v T ∧ wpAny (model X.prog X.w) X.A (getItem v (.ref sl)) (EP X pins σ Q) X.xe s := fun q => by
    cases e : lstOf m wx with
    | none => rw [e] at q; exact q.elim
    | some l =>
      rw [e] at q
      obtain ⟨a, vs, h1, h2, h3⟩ := relL sr r1 e
      exact sl_list pins s σ H x v vl vu lo hi sl Q I rx hs pl pu ⟨a, vs, h1, h2, fun p hp => new_lst sr (cut_rel h3 lo hi) ok q hp⟩
  cases wx with
  | str z => exact sl_str pins s σ H x v vl vu lo hi sl Q I rx hs pl pu ⟨z, relStr r1, q.1, ok _ m _ H as (Fr.refl _ _) sr (.str _) q.2⟩
  | tup l =>
    obtain ⟨a, vs, h1, h2, h0, h3⟩ := relT r1
    refine sl_tupF pins s σ H x v vl vu lo hi sl Q I rx hs pl pu ⟨a, vs, h1, .inl h2, fun z => ?_, fun _ => new_tup sr (cut_rel h3 lo hi) ok q⟩
    rw [← h3.length] at z
    have q : R (.tup (cutW l lo hi)) m := q
    rw [cutW_all z] at q
    exact ok _ m _ H as (Fr.refl _ _) sr (by rw [← h1]; exact r1) q
  | _ => exact lists q
/-- an end of a slice -/
abbrev WP := List (Option W) → Sto → (Option Int → Sto → Prop) → WZ → Prop
def wNoP : WP := fun _ m R _ => R none m
def wP (t : WE) : WP := fun d m R Z => t d m (fun w m1 => match w with
  | .int i => R (some i) m1
  | _ => False) Z
abbrev tMP (g : GE) (E : XK) (t : WP) : TO := tG g E (fun _ _ (a b : Option Int) => a = b) t
theorem PO_mono {e : Option Expr} {t t' : TO} (h : PO X e t) (k : ∀ σ H Q, t' σ H Q → t σ H Q) : PO X e t' := ⟨fun pins s σ H Q I q => h.run pins s σ H Q I (k σ H Q q)⟩
theorem w_pnone : PO X none (tMP (gOf X) E wNoP) := PO_mono po_none fun σ H Q ⟨as, d, m, R, Z, sr, rs, h, ok, ex⟩ => ok _ m none H as (Fr.refl _ _) sr rfl h
theorem w_psome {e : Expr} {t : WE} (he : PE X e (tM (gOf X) E t)) : PO X (some e) (tMP (gOf X) E (wP t)) :=
  PO_mono (po_some he) fun σ H Q ⟨as, d, m, R, Z, sr, rs, h, ok, ex⟩ => by
    refine ⟨as, d, m, _, Z, sr, rs, h, fun w m1 v H1 as1 f1 s1 r1 h1 => ?_, ex⟩
    split at h1
    · exact ⟨_, relInt r1, ok _ m1 _ H1 as1 f1 s1 rfl h1⟩
    · exact h1.elim
def wSl (a : WE) (lo hi : WP) : WE := fun d m R Z => a d m (fun x m1 => lo d m1 (fun l m2 => hi d m2 (fun u m3 => oSl x l u m3 R) Z) Z) Z
theorem w_slice {a : Expr} {ta : WE} {lo hi : Option Expr} {tl th : WP} {p2 : Pos} (ha : PE X a (tM (gOf X) E ta)) (hl : PO X lo (tMP (gOf X) E tl)) (hh : PO X hi (tMP (gOf X) E th)) :
    PE X (.Subscript a (.Slice lo hi none p2) pos) (tM (gOf X) E (wSl ta tl th)) :=
  PE_mono (pe_slice slw ha hl hh) fun σ H Q ⟨as, d, m, R, Z, sr, rs, h, ok, ex⟩ => by
    refine ⟨as, d, m, _, Z, sr, rs, h, fun w m1 v H1 as1 f1 s1 r1 h1 => ?_, ex⟩
    refine ⟨as1, d, m1, _, Z, s1, rs.fr f1, h1, fun l m2 l' H2 as2 f2 s2 e2 h2 => ?_, ex.fr f1⟩
    subst e2
    refine ⟨as2, d, m2, _, Z, s2, (rs.fr f1).fr f2, h2, fun u m3 u' H3 as3 f3 s3 e3 h3 => ?_, (ex.fr f1).fr f2⟩
    subst e3
    exact ⟨as3, w, m3, R, s3, (r1.fr f2).fr f3, h3, fun w4 m4 v4 H4 as4 f4 s4 r4 h4 => ok w4 m4 v4 H4 as4 (f1.trans (f2.trans (f3.trans f4))) s4 r4 h4⟩
def wNil : WA := fun _ m R _ => R [] m
def wCons (a : WE) (r : WA) : WA := fun d m R Z => a d m (fun x m1 => r d m1 (fun xs m2 => R (x :: xs) m2) Z) Z
theorem w_nil : PA X [] (tMA (gOf X) E wNil) := PA_mono pa_nil fun σ H Q ⟨as, d, m, R, Z, sr, rs, h, ok, ex⟩ => ok _ m [] H as (Fr.refl _ _) sr .nil h
def notStar : Expr → Bool
  | .Starred _ _ => false
  | _ => true
theorem starEach_plain {e : Expr} {es : List Expr} {env : Env} (h : notStar e = true) : starEach (e :: es) env = (false, eval e env) :: starEach es env := by
  cases e <;> first | rfl | cases h
theorem starEach_any {es : List Expr} {env : Env} (h : es.all notStar = true) : (backTo pos (starEach es env)).any (·.1) = false := by
  induction es with
  | nil => rfl
  | cons e r ih =>
    rw [List.all_cons, Bool.and_eq_true] at h
    rw [starEach_plain h.1]
    have := ih h.2
    unfold backTo at this ⊢
    rw [List.map_cons, List.any_cons, this]
    rfl
theorem w_cons {e : Expr} {es : List Expr} {te : WE} {t : WA} (hn : notStar e = true) (ha : PE X e (tM (gOf X) E te)) (hr : PA X es (tMA (gOf X) E t)) : PA X (e :: es) (tMA (gOf X) E (wCons te t)) :=
  PA_mono (pa_cons ha hr (starEach_plain hn)) fun σ H Q ⟨as, d, m, R, Z, sr, rs, h, ok, ex⟩ => by
    refine ⟨as, d, m, _, Z, sr, rs, h, fun w m1 v H1 as1 f1 s1 r1 h1 => ?_, ex⟩
    exact ⟨as1, d, m1, _, Z, s1, rs.fr f1, h1, fun ws m2 vs H2 as2 f2 s2 r2 h2 => ok _ m2 _ H2 as2 (f1.trans f2) s2 (.cons (r1.fr f2) r2) h2, ex.fr f1⟩
def wTup (t : WA) : WE := fun d m R Z => t d m (fun ws m1 => ws.length ≤ sizeLine ∧ R (.tup ws) m1) Z
def wLst (t : WA) : WE := fun d m R Z => t d m (fun ws m1 => ws.length ≤ sizeLine ∧ R (.lst ws) m1) Z
/-- a list that will change -/
def wLstM (t : WA) : WE := fun d m R Z => t d m (fun ws m1 => ws.length ≤ sizeLine ∧ R (.ref m1.length) (m1 ++ [.lst ws])) Z
theorem w_tup {es : List Expr} {t : WA} {x1} (h : PA X es (tMA (gOf X) E t)) : PE X (.Tuple es x1 pos) (tM (gOf X) E (wTup t)) :=
  PE_mono (pe_tupF h) fun σ H Q ⟨as, d, m, R, Z, sr, rs, h, ok, ex⟩ =>
    ⟨as, d, m, _, Z, sr, rs, h, fun ws m1 vs H1 as1 f1 s1 r1 h1 => ⟨by rw [← r1.length]; exact h1.1, new_tup s1 r1 (fun w m2 v H2 as2 f2 s2 r2 q => ok w m2 v H2 as2 (f1.trans f2) s2 r2 q) h1.2⟩, ex⟩
theorem w_lst {es : List Expr} {t : WA} (h : PA X es (tMA (gOf X) E t)) : PE X (.List es pos) (tM (gOf X) E (wLst t)) :=
  PE_mono (pe_lst h) fun σ H Q ⟨as, d, m, R, Z, sr, rs, h, ok, ex⟩ =>
    ⟨as, d, m, _, Z, sr, rs, h, fun ws m1 vs H1 as1 f1 s1 r1 h1 => ⟨by rw [← r1.length]; exact h1.1, fun p hp => new_lst s1 r1 (fun w m2 v H2 as2 f2 s2 r2 q => ok w m2 v H2 as2 (f1.trans f2) s2 r2 q) h1.2 hp⟩, ex⟩
theorem w_lstM {es : List Expr} {t : WA} (h : PA X es (tMA (gOf X) E t)) : PE X (.List es pos) (tM (gOf X) E (wLstM t)) :=
  PE_mono (pe_lst h) fun σ H Q ⟨as, d, m, R, Z, sr, rs, h, ok, ex⟩ => by
    refine ⟨as, d, m, _, Z, sr, rs, h, fun ws m1 vs H1 as1 f1 s1 r1 h1 => ⟨by rw [← r1.length]; exact h1.1, fun p hp => ?_⟩, ex⟩
    obtain ⟨f2, s2, e2⟩ := s1.grow (o := .lst ws) (u := .lst vs) hp fun as' f => ⟨vs, upd_same, r1.fr f⟩
    exact ok _ _ _ _ _ (f1.trans f2) s2 (.ref e2) h1.2
def wAnd (a b : WE) : WE := fun d m R Z => a d m (fun x m1 => match truW m1 x with
  | some k => if k = true then b d m1 R Z else R x m1
  | none => False) Z
def wOr (a b : WE) : WE := fun d m R Z => a d m (fun x m1 => match truW m1 x with
  | some k => if k = true then R x m1 else b d m1 R Z
  | none => False) Z
def wNot (a : WE) : WE := fun d m R Z => a d m (fun x m1 => match truW m1 x with
  | some b => R (.bl (!b)) m1
  | none => False) Z
theorem w_one {a : Expr} {op} {t : WE} (h : PE X a (tM (gOf X) E t)) : PE X (.BoolOp op [a] pos) (tM (gOf X) E t) := pe_one h
theorem w_and {a b : Expr} {rest : List Expr} {ta tb : WE} (ha : PE X a (tM (gOf X) E ta)) (hb : PE X (.BoolOp .And (b :: rest) pos) (tM (gOf X) E tb)) : PE X (.BoolOp .And (a :: b :: rest) pos) (tM (gOf X) E (wAnd ta tb)) :=
  PE_mono (pe_andT ha hb) fun σ H Q ⟨as, d, m, R, Z, sr, rs, h, ok, ex⟩ => by
    refine ⟨as, d, m, _, Z, sr, rs, h, fun w m1 v H1 as1 f1 s1 r1 h1 => ?_, ex⟩
    cases e : truW m1 w with
    | none => rw [e] at h1; exact h1.elim
    | some k =>
      rw [e] at h1
      refine ⟨k, truW_rel s1 r1 e, ?_⟩
      cases k with
      | true => exact iteT ⟨as1, d, m1, R, Z, s1, rs.fr f1, by simpa using h1, fun w2 m2 v2 H2 as2 f2 s2 r2 h2 => ok w2 m2 v2 H2 as2 (f1.trans f2) s2 r2 h2, ex.fr f1⟩
      | false => exact iteF (ok _ m1 _ H1 as1 f1 s1 r1 (by simpa using h1))
theorem w_or {a b : Expr} {rest : List Expr} {ta tb : WE} (ha : PE X a (tM (gOf X) E ta)) (hb : PE X (.BoolOp .Or (b :: rest) pos) (tM (gOf X) E tb)) : PE X (.BoolOp .Or (a :: b :: rest) pos) (tM (gOf X) E (wOr ta tb)) :=
  PE_mono (pe_orT ha hb) fun σ H Q ⟨as, d, m, R, Z, sr, rs, h, ok, ex⟩ => by
    refine ⟨as, d, m, _, Z, sr, rs, h, fun w m1 v H1 as1 f1 s1 r1 h1 => ?_, ex⟩
    cases e : truW m1 w with
    | none => rw [e] at h1; exact h1.elim
    | some k =>
      rw [e] at h1
      refine ⟨k, truW_rel s1 r1 e, ?_⟩
      cases k with
      | false => exact iteF ⟨as1, d, m1, R, Z, s1, rs.fr f1, by simpa using h1, fun w2 m2 v2 H2 as2 f2 s2 r2 h2 => ok w2 m2 v2 H2 as2 (f1.trans f2) s2 r2 h2, ex.fr f1⟩
      | true => exact iteT (ok _ m1 _ H1 as1 f1 s1 r1 (by simpa using h1))
theorem w_not {a : Expr} {ta : WE} (ha : PE X a (tM (gOf X) E ta)) : PE X (.UnaryOp .Not a pos) (tM (gOf X) E (wNot ta)) :=
  PE_mono (pe_notT ha) fun σ H Q ⟨as, d, m, R, Z, sr, rs, h, ok, ex⟩ => by
    refine ⟨as, d, m, _, Z, sr, rs, h, fun w m1 v H1 as1 f1 s1 r1 h1 => ?_, ex⟩
    cases e : truW m1 w with
    | none => rw [e] at h1; exact h1.elim
    | some k =>
      rw [e] at h1
      exact ⟨k, truW_rel s1 r1 e, ok _ m1 _ H1 as1 f1 s1 (.bl _) h1⟩
def oNeg : W → Sto → WR → Prop := fun x m R => match x with
  | .int i => R (.int (-i)) m
  | _ => False
theorem uw_neg : UnR X (unaryOp .USub) (rW1 (gOf X) oNeg) := by
  intro pins s σ H x v Q I rx ⟨as, wx, m, R, sr, r1, q, ok⟩
  unfold oNeg at q
  split at q
  · exact un_neg pins s σ H x v Q I rx ⟨_, relInt r1, ok _ m _ H as (Fr.refl _ _) sr (.int _) q⟩
  · exact q.elim
def wTru (a : WE) : WT := fun d m R Z => a d m (fun x m1 => match truW m1 x with
  | some b => R b m1
  | none => False) Z
def wTAnd (a b : WT) : WT := fun d m R Z => a d m (fun x m1 => if x = true then b d m1 R Z else R false m1) Z
def wTOr (a b : WT) : WT := fun d m R Z => a d m (fun x m1 => if x = true then R true m1 else b d m1 R Z) Z
def wTNot (a : WT) : WT := fun d m R Z => a d m (fun x m1 => R (!x) m1) Z
/-- a comparison as a test -/
def wTB (a : WE) : WT := fun d m R Z => a d m (fun x m1 => match x with
  | .bl b => R b m1
  | _ => False) Z
theorem w_tru {a : Expr} {ta : WE} (ha : PE X a (tM (gOf X) E ta)) (he : ∀ whole, isTrue a X.env whole = (do let v ← whole; standAt a.pos; holding [v] (truthy v))) : PT X a (tMT (gOf X) E (wTru ta)) :=
  PT_mono (pt_truth ha he) fun σ H Q ⟨as, d, m, R, Z, sr, rs, h, ok, ex⟩ => by
    refine ⟨as, d, m, _, Z, sr, rs, h, fun w m1 v H1 as1 f1 s1 r1 h1 => ?_, ex⟩
    cases e : truW m1 w with
    | none => rw [e] at h1; exact h1.elim
    | some k =>
      rw [e] at h1
      exact ⟨k, truW_rel s1 r1 e, ok _ m1 _ H1 as1 f1 s1 rfl h1⟩
theorem tTest_of {t : TE} {ta : WE} {σ : L2.St} {H : Hp} {Q : Bool → Hp → Prop} (hk : ∀ σ H Q, tM (gOf X) E ta σ H Q → t σ H Q) (h : tMT (gOf X) E (wTB ta) σ H Q) : tTest t σ H Q := by
  obtain ⟨as, d, m, R, Z, sr, rs, h, ok, ex⟩ := h
  refine hk _ _ _ ⟨as, d, m, _, Z, sr, rs, h, fun w m1 v H1 as1 f1 s1 r1 h1 => ?_, ex⟩
  split at h1
  · exact ⟨_, relBl r1, ok _ m1 _ H1 as1 f1 s1 rfl h1⟩
  · exact h1.elim
theorem w_tcmp {a b : Expr} {ta tb : WE} {op : CmpOp} {f : WO} (ho : OpW X (compareOp op) f) (ha : PE X a (tM (gOf X) E ta)) (hb : PE X b (tM (gOf X) E tb)) (hm : behindInMarks op b = false) :
    PT X (.Compare a [op] [b] pos) (tMT (gOf X) E (wTB (wOp f ta tb))) :=
  PT_mono (pt_cmpR ho ha hb hm) fun σ H Q h => tTest_of (fun _ _ _ h => top_of h) h
def wChain (f f' : WO) (a b c : WE) : WE := fun d m R Z => a d m (fun x m1 => b d m1 (fun y m2 => f x y m2 (fun z m3 => match z with
  | .bl k => if k = true then c d m3 (fun w m4 => f' y w m4 R) Z else R (.bl false) m3
  | _ => False)) Z) Z
theorem tchain_of {f f' : WO} {ta tb tc : WE} {σ : L2.St} {H : Hp} {Q : VK} (h : tM (gOf X) E (wChain f f' ta tb tc) σ H Q) :
    tChain (rW (gOf X) f) (rW (gOf X) f') (tM (gOf X) E ta) (tM (gOf X) E tb) (tM (gOf X) E tc) σ H Q := by
  obtain ⟨as, d, m, R, Z, sr, rs, h, ok, ex⟩ := h
  refine ⟨as, d, m, _, Z, sr, rs, h, fun w m1 v H1 as1 f1 s1 r1 h1 => ?_, ex⟩
  refine ⟨as1, d, m1, _, Z, s1, rs.fr f1, h1, fun w2 m2 v2 H2 as2 f2 s2 r2 h2 => ?_, ex.fr f1⟩
  refine ⟨as2, w, w2, m2, _, s2, r1.fr f2, r2, h2, fun w3 m3 v3 H3 as3 f3 s3 r3 h3 => ?_⟩
  split at h3
  · rename_i k
    cases k with
    | true =>
      refine ⟨true, relBl r3, iteT ⟨as3, d, m3, _, Z, s3, ((rs.fr f1).fr f2).fr f3, by simpa using h3, fun w4 m4 v4 H4 as4 f4 s4 r4 h4 => ?_, ((ex.fr f1).fr f2).fr f3⟩⟩
      exact ⟨as4, w2, w4, m4, R, s4, (r2.fr f3).fr f4, r4, h4, fun w5 m5 v5 H5 as5 f5 s5 r5 h5 => ok w5 m5 v5 H5 as5 (f1.trans (f2.trans (f3.trans (f4.trans f5)))) s5 r5 h5⟩
    | false => exact ⟨false, relBl r3, iteF (ok _ m3 _ H3 as3 (f1.trans (f2.trans f3)) s3 (.bl _) (by simpa using h3))⟩
  · exact h3.elim
theorem w_chain {a b c : Expr} {ta tb tc : WE} {op op' : CmpOp} {f f' : WO} (ho : OpW X (compareOp op) f) (ho' : OpW X (compareOp op') f') (ha : PE X a (tM (gOf X) E ta)) (hb : PE X b (tM (gOf X) E tb)) (hc : PE X c (tM (gOf X) E tc))
    (hm : lastMarks [op, op'] [b, c] = false) : PE X (.Compare a [op, op'] [b, c] pos) (tM (gOf X) E (wChain f f' ta tb tc)) :=
  PE_mono (pe_chain ho ho' ha hb hc hm) fun σ H Q h => tchain_of h
theorem w_tchain {a b c : Expr} {ta tb tc : WE} {op op' : CmpOp} {f f' : WO} (ho : OpW X (compareOp op) f) (ho' : OpW X (compareOp op') f') (ha : PE X a (tM (gOf X) E ta)) (hb : PE X b (tM (gOf X) E tb)) (hc : PE X c (tM (gOf X) E tc))
    (hm : lastMarks [op, op'] [b, c] = false) : PT X (.Compare a [op, op'] [b, c] pos) (tMT (gOf X) E (wTB (wChain f f' ta tb tc))) :=
  PT_mono (pt_chain ho ho' ha hb hc hm) fun σ H Q h => tTest_of (fun _ _ _ h => tchain_of h) h
/-- a op1 b op2 c op3 e -/
def tChain3 (r r' r'' : R2) (ta tb tc te : TE) : TE := fun σ H Q => ta σ H fun x H1 => tb σ H1 fun y H2 => r x y H2 fun z H3 => ∃ k, z = .bl k ∧
  (if k = true then tc σ H3 fun w' H4 => r' y w' H4 fun z2 H5 => ∃ k2, z2 = .bl k2 ∧ (if k2 = true then te σ H5 fun u' H6 => r'' w' u' H6 Q else Q (.bl false) H5) else Q (.bl false) H3)
theorem pe_chain3 {a b c e : Expr} {ta tb tc te : TE} {op op' op'' : CmpOp} {r r' r'' : R2} (ho : OpR X (compareOp op) r) (ho' : OpR X (compareOp op') r') (ho'' : OpR X (compareOp op'') r'') (ha : PE X a ta) (hb : PE X b tb) (hc : PE X c tc) (he : PE X e te)
    (hm : lastMarks [op, op', op''] [b, c, e] = false) : PE X (.Compare a [op, op', op''] [b, c, e] pos) (tChain3 r r' r'' ta tb tc te) := by
  refine ⟨fun pins s σ H Q I h => ?_⟩
  refine PyProof.Rows.Compare_chain (thn (ha.run pins s σ H _ I h) fun v s1 ⟨x, H1, I1, r1, q1⟩ => PyProof.Rows.chain_link (thn (hb.run pins s1 σ H1 _ I1 q1) fun u s2 ⟨y, H2, I2, r2, q2⟩ =>
    thn (ho pins s2 σ H2 x y v u _ I2 r1 r2 q2) fun d s3 ⟨z, H3, I3, r3, k, e, q3⟩ => ?_)) hm
  subst e
  cases r3
  refine wpAny_truthy_bool ?_
  cases k with
  | false => exact PyProof.Rows.ite_ff ⟨.bl false, H3, I3, rfl, q3⟩
  | true =>
    refine PyProof.Rows.ite_tt (PyProof.Rows.chain_link (thn (hc.run pins s3 σ H3 _ I3 q3) fun w' s4 ⟨z', H4, I4, r4, q4⟩ => thn (ho' pins s4 σ H4 y z' u w' _ I4 r2 r4 q4) fun d' s5 ⟨z2, H5, I5, r5, k2, e2, q5⟩ => ?_))
    subst e2
    cases r5
    refine wpAny_truthy_bool ?_
    cases k2 with
    | false => exact PyProof.Rows.ite_ff ⟨.bl false, H5, I5, rfl, q5⟩
    | true => exact PyProof.Rows.ite_tt (PyProof.Rows.chain_last (thn (he.run pins s5 σ H5 _ I5 q5) fun w2 s6 ⟨z3, H6, I6, r6, q6⟩ => ho'' pins s6 σ H6 z' z3 w' w2 Q I6 r4 r6 q6))
theorem pt_chain3 {a b c e : Expr} {ta tb tc te : TE} {op op' op'' : CmpOp} {r r' r'' : R2} (ho : OpR X (compareOp op) r) (ho' : OpR X (compareOp op') r') (ho'' : OpR X (compareOp op'') r'') (ha : PE X a ta) (hb : PE X b tb) (hc : PE X c tc) (he : PE X e te)
    (hm : lastMarks [op, op', op''] [b, c, e] = false) : PT X (.Compare a [op, op', op''] [b, c, e] pos) (tTest (tChain3 r r' r'' ta tb tc te)) := by
  refine ⟨fun pins s σ H Q I h => ?_⟩
  refine PyProof.Rows.isTrue_chain (thn (ha.run pins s σ H _ I h) fun v s1 ⟨x, H1, I1, r1, q1⟩ => PyProof.Rows.test_link (thn (hb.run pins s1 σ H1 _ I1 q1) fun u s2 ⟨y, H2, I2, r2, q2⟩ =>
    thn (ho pins s2 σ H2 x y v u _ I2 r1 r2 q2) fun d s3 ⟨z, H3, I3, r3, k, e, q3⟩ => ?_)) hm
  subst e
  cases r3
  refine wpAny_truthy_bool ?_
  cases k with
  | false =>
    obtain ⟨k', e', q'⟩ := q3
    cases e'
    exact PyProof.Rows.ite_ff ⟨H3, I3, q'⟩
  | true =>
    refine PyProof.Rows.ite_tt (PyProof.Rows.test_link (thn (hc.run pins s3 σ H3 _ I3 q3) fun w' s4 ⟨z', H4, I4, r4, q4⟩ => thn (ho' pins s4 σ H4 y z' u w' _ I4 r2 r4 q4) fun d' s5 ⟨z2, H5, I5, r5, k2, e2, q5⟩ => ?_))
    subst e2
    cases r5
    refine wpAny_truthy_bool ?_
    cases k2 with
    | false =>
      obtain ⟨k', e', q'⟩ := q5
      cases e'
      exact PyProof.Rows.ite_ff ⟨H5, I5, q'⟩
    | true =>
      refine PyProof.Rows.ite_tt (PyProof.Rows.test_last (thn (he.run pins s5 σ H5 _ I5 q5) fun w2 s6 ⟨z3, H6, I6, r6, q6⟩ => thn (ho'' pins s6 σ H6 z' z3 w' w2 _ I6 r4 r6 q6) fun d2 s7 ⟨z4, H7, I7, r7, k3, e3, q7⟩ => ?_))
      subst e3
      cases r7
      exact wpAny_truthy_bool ⟨H7, I7, q7⟩
def wChain3 (f f' f'' : WO) (a b c e : WE) : WE := fun d m R Z => a d m (fun x m1 => b d m1 (fun y m2 => f x y m2 (fun z m3 => match z with
  | .bl k => if k = true then c d m3 (fun w m4 => f' y w m4 (fun z2 m5 => match z2 with
    | .bl k2 => if k2 = true then e d m5 (fun u m6 => f'' w u m6 R) Z else R (.bl false) m5
    | _ => False)) Z else R (.bl false) m3
  | _ => False)) Z) Z
theorem tchain3_of {f f' f'' : WO} {ta tb tc te : WE} {σ : L2.St} {H : Hp} {Q : VK} (h : tM (gOf X) E (wChain3 f f' f'' ta tb tc te) σ H Q) :
    tChain3 (rW (gOf X) f) (rW (gOf X) f') (rW (gOf X) f'') (tM (gOf X) E ta) (tM (gOf X) E tb) (tM (gOf X) E tc) (tM (gOf X) E te) σ H Q := by
  obtain ⟨as, d, m, R, Z, sr, rs, h, ok, ex⟩ := h
  refine ⟨as, d, m, _, Z, sr, rs, h, fun w m1 v H1 as1 f1 s1 r1 h1 => ?_, ex⟩
  refine ⟨as1, d, m1, _, Z, s1, rs.fr f1, h1, fun w2 m2 v2 H2 as2 f2 s2 r2 h2 => ?_, ex.fr f1⟩
  refine ⟨as2, w, w2, m2, _, s2, r1.fr f2, r2, h2, fun w3 m3 v3 H3 as3 f3 s3 r3 h3 => ?_⟩
  have f123 := f1.trans (f2.trans f3)
  split at h3
  · rename_i k
    cases k with
    | true =>
      refine ⟨true, relBl r3, iteT ⟨as3, d, m3, _, Z, s3, rs.fr f123, by simpa using h3, fun w4 m4 v4 H4 as4 f4 s4 r4 h4 => ?_, ex.fr f123⟩⟩
      refine ⟨as4, w2, w4, m4, _, s4, (r2.fr f3).fr f4, r4, h4, fun w5 m5 v5 H5 as5 f5 s5 r5 h5 => ?_⟩
      have f15 := f123.trans (f4.trans f5)
      split at h5
      · rename_i k2
        cases k2 with
        | true =>
          refine ⟨true, relBl r5, iteT ⟨as5, d, m5, _, Z, s5, rs.fr f15, by simpa using h5, fun w6 m6 v6 H6 as6 f6 s6 r6 h6 => ?_, ex.fr f15⟩⟩
          exact ⟨as6, w4, w6, m6, R, s6, (r4.fr f5).fr f6, r6, h6, fun w7 m7 v7 H7 as7 f7 s7 r7 h7 => ok w7 m7 v7 H7 as7 (f15.trans (f6.trans f7)) s7 r7 h7⟩
        | false => exact ⟨false, relBl r5, iteF (ok _ m5 _ H5 as5 f15 s5 (.bl _) (by simpa using h5))⟩
      · exact h5.elim
    | false => exact ⟨false, relBl r3, iteF (ok _ m3 _ H3 as3 f123 s3 (.bl _) (by simpa using h3))⟩
  · exact h3.elim
theorem w_chain3 {a b c e : Expr} {ta tb tc te : WE} {op op' op'' : CmpOp} {f f' f'' : WO} (ho : OpW X (compareOp op) f) (ho' : OpW X (compareOp op') f') (ho'' : OpW X (compareOp op'') f'') (ha : PE X a (tM (gOf X) E ta)) (hb : PE X b (tM (gOf X) E tb)) (hc : PE X c (tM (gOf X) E tc)) (he : PE X e (tM (gOf X) E te))
    (hm : lastMarks [op, op', op''] [b, c, e] = false) : PE X (.Compare a [op, op', op''] [b, c, e] pos) (tM (gOf X) E (wChain3 f f' f'' ta tb tc te)) :=
  PE_mono (pe_chain3 ho ho' ho'' ha hb hc he hm) fun σ H Q h => tchain3_of h
theorem w_tchain3 {a b c e : Expr} {ta tb tc te : WE} {op op' op'' : CmpOp} {f f' f'' : WO} (ho : OpW X (compareOp op) f) (ho' : OpW X (compareOp op') f') (ho'' : OpW X (compareOp op'') f'') (ha : PE X a (tM (gOf X) E ta)) (hb : PE X b (tM (gOf X) E tb)) (hc : PE X c (tM (gOf X) E tc)) (he : PE X e (tM (gOf X) E te))
    (hm : lastMarks [op, op', op''] [b, c, e] = false) : PT X (.Compare a [op, op', op''] [b, c, e] pos) (tMT (gOf X) E (wTB (wChain3 f f' f'' ta tb tc te))) :=
  PT_mono (pt_chain3 ho ho' ho'' ha hb hc he hm) fun σ H Q h => tTest_of (fun _ _ _ h => tchain3_of h) h
theorem w_tand1 {a : Expr} {ta : WT} (ha : PT X a (tMT (gOf X) E ta)) : PW X (.BoolOp .And [a] pos) (tMT (gOf X) E ta) := pw_and1 ha
theorem w_tor1 {a : Expr} {ta : WT} (ha : PT X a (tMT (gOf X) E ta)) : PW X (.BoolOp .Or [a] pos) (tMT (gOf X) E ta) := pw_or1 ha
theorem w_tand {a b : Expr} {rest : List Expr} {ta tb : WT} (ha : PT X a (tMT (gOf X) E ta)) (hb : PW X (.BoolOp .And (b :: rest) pos) (tMT (gOf X) E tb)) : PW X (.BoolOp .And (a :: b :: rest) pos) (tMT (gOf X) E (wTAnd ta tb)) :=
  PW_mono (pw_and ha hb) fun σ H Q ⟨as, d, m, R, Z, sr, rs, h, ok, ex⟩ => by
    refine ⟨as, d, m, _, Z, sr, rs, h, fun k m1 k' H1 as1 f1 s1 e h1 => ?_, ex⟩
    subst e
    cases k with
    | true => exact iteT ⟨as1, d, m1, R, Z, s1, rs.fr f1, by simpa using h1, fun w2 m2 v2 H2 as2 f2 s2 r2 h2 => ok w2 m2 v2 H2 as2 (f1.trans f2) s2 r2 h2, ex.fr f1⟩
    | false => exact iteF (ok _ m1 _ H1 as1 f1 s1 rfl (by simpa using h1))
theorem w_tor {a b : Expr} {rest : List Expr} {ta tb : WT} (ha : PT X a (tMT (gOf X) E ta)) (hb : PW X (.BoolOp .Or (b :: rest) pos) (tMT (gOf X) E tb)) : PW X (.BoolOp .Or (a :: b :: rest) pos) (tMT (gOf X) E (wTOr ta tb)) :=
  PW_mono (pw_or ha hb) fun σ H Q ⟨as, d, m, R, Z, sr, rs, h, ok, ex⟩ => by
    refine ⟨as, d, m, _, Z, sr, rs, h, fun k m1 k' H1 as1 f1 s1 e h1 => ?_, ex⟩
    subst e
    cases k with
    | false => exact iteF ⟨as1, d, m1, R, Z, s1, rs.fr f1, by simpa using h1, fun w2 m2 v2 H2 as2 f2 s2 r2 h2 => ok w2 m2 v2 H2 as2 (f1.trans f2) s2 r2 h2, ex.fr f1⟩
    | true => exact iteT (ok _ m1 _ H1 as1 f1 s1 rfl (by simpa using h1))
theorem w_tnot {a : Expr} {ta : WT} (ha : PT X a (tMT (gOf X) E ta)) : PT X (.UnaryOp .Not a pos) (tMT (gOf X) E (wTNot ta)) :=
  PT_mono (pt_not ha) fun σ H Q ⟨as, d, m, R, Z, sr, rs, h, ok, ex⟩ =>
    ⟨as, d, m, _, Z, sr, rs, h, fun k m1 k' H1 as1 f1 s1 e h1 => by subst e; exact ok _ m1 _ H1 as1 f1 s1 rfl h1, ex⟩
def wIf (t : WT) (a b : WE) : WE := fun d m R Z => t d m (fun k m1 => if k = true then a d m1 R Z else b d m1 R Z) Z
theorem w_if {c a b : Expr} {tc : WT} {ta tb : WE} (hc : PT X c (tMT (gOf X) E tc)) (ha : PE X a (tM (gOf X) E ta)) (hb : PE X b (tM (gOf X) E tb)) : PE X (.IfExp c a b pos) (tM (gOf X) E (wIf tc ta tb)) :=
  PE_mono (pe_ifExp hc ha hb) fun σ H Q ⟨as, d, m, R, Z, sr, rs, h, ok, ex⟩ => by
    refine ⟨as, d, m, _, Z, sr, rs, h, fun k m1 k' H1 as1 f1 s1 e h1 => ?_, ex⟩
    subst e
    have back : ∀ t : WE, t d m1 R Z → tM (gOf X) E t σ H1 Q := fun t ht => ⟨as1, d, m1, R, Z, s1, rs.fr f1, ht, fun w2 m2 v2 H2 as2 f2 s2 r2 h2 => ok w2 m2 v2 H2 as2 (f1.trans f2) s2 r2 h2, ex.fr f1⟩
    cases k with
    | true => exact iteT (back _ (by simpa using h1))
    | false => exact iteF (back _ (by simpa using h1))
def wCB (f : WF) (t : WA) : WE := fun d m R Z => t d m (fun ws m1 => f ws m1 R) Z
theorem w_callB {x : Str} {p : Pos} {e : Expr} {es : List Expr} {t : WA} {id : String} {f : WF} (hc : CallW X (.builtin id) f) (hg : Gl X x) (hm : X.mg x = none) (hv : bootBuiltins x = some (.builtin id)) (ha : PA X (e :: es) (tMA (gOf X) E t))
    (hn : x ≠ "__name__") (hdb : (x == ("__debug__" : Str)) = false) (he : notStar e = true) (hes : es.all notStar = true) : PE X (.Call (.Name x p) (e :: es) [] pos) (tM (gOf X) E (wCB f t)) :=
  PE_mono (pe_callB hc hg hm hv ha hn hdb (starEach_plain he) (starEach_any hes)) fun σ H Q ⟨as, d, m, R, Z, sr, rs, h, ok, ex⟩ =>
    ⟨as, d, m, _, Z, sr, rs, h, fun ws m1 vs H1 as1 f1 s1 r1 h1 => ⟨as1, ws, m1, R, s1, r1, h1, fun w2 m2 v2 H2 as2 f2 s2 r2 h2 => ok w2 m2 v2 H2 as2 (f1.trans f2) s2 r2 h2⟩, ex⟩
theorem w_callTy {x : Str} {p : Pos} {e : Expr} {es : List Expr} {t : WA} {T : String} {f : WF} (hc : CallW X (.type T) f) (hg : Gl X x) (hm : X.mg x = none) (hv : bootBuiltins x = some (.type T)) (ha : PA X (e :: es) (tMA (gOf X) E t))
    (hn : x ≠ "__name__") (hdb : (x == ("__debug__" : Str)) = false) (he : notStar e = true) (hes : es.all notStar = true) : PE X (.Call (.Name x p) (e :: es) [] pos) (tM (gOf X) E (wCB f t)) :=
  PE_mono (pe_callTy hc hg hm hv ha hn hdb (starEach_plain he) (starEach_any hes)) fun σ H Q ⟨as, d, m, R, Z, sr, rs, h, ok, ex⟩ =>
    ⟨as, d, m, _, Z, sr, rs, h, fun ws m1 vs H1 as1 f1 s1 r1 h1 => ⟨as1, ws, m1, R, s1, r1, h1, fun w2 m2 v2 H2 as2 f2 s2 r2 h2 => ok w2 m2 v2 H2 as2 (f1.trans f2) s2 r2 h2⟩, ex⟩
/-- isinstance(e, T) -/
theorem w_isi {x T : Str} {p p2 : Pos} {e : Expr} {te : WE} {tn : String} (hx : x = "isinstance") (hg : Gl X x) (hm : X.mg x = none) (hg2 : Gl X T) (hm2 : X.mg T = none) (hv2 : bootBuiltins T = some (.type tn)) (hT : tn ∈ tyAsk)
    (hn2 : T ≠ "__name__") (hd2 : (T == ("__debug__" : Str)) = false) (he : notStar e = true) (ha : PE X e (tM (gOf X) E te)) : PE X (.Call (.Name x p) [e, .Name T p2] [] pos) (tM (gOf X) E (wUn (oIsi tn) te)) := by
  subst hx
  refine PE_mono (pe_callB call_isi hg hm (by decide +kernel) (pa_cons ha (pa_cons (pe_bltn hg2 hm2 hv2 (v := .ty tn) rfl hn2 hd2) pa_nil rfl) (starEach_plain he)) (by decide) (by decide) (starEach_plain he) rfl) fun σ H Q ⟨as, d, m, R, Z, sr, rs, h, ok, ex⟩ => ?_
  refine ⟨as, d, m, _, Z, sr, rs, h, fun w m1 v H1 as1 f1 s1 r1 h1 => ?_, ex⟩
  unfold oIsi at h1
  cases q : tyW m1 w with
  | none => rw [q] at h1; exact h1.elim
  | some t =>
    rw [q] at h1
    exact ⟨v, .ty tn, .type t, .type tn, isiB t tn, rfl, .ty tn, tyW_rel s1 r1 q, kit_ty (isiB_ok t (tyW_all q) tn hT), ok _ m1 _ H1 as1 f1 s1 (.bl _) h1⟩
/-- a contract of a def -/
abbrev Con := List W → Sto → WR → WZ → Prop
def spW (g : GE) (n : Nat) (c : Con) : Sp := fun vs H Q E => ∃ as ws m R Z, SR g as H m ∧ RelWs g as H ws vs ∧ ws.length = n ∧ c ws m R Z ∧ (∀ w m' v H' as', Fr as as' H H' → SR g as' H' m' → RelW g as' H' w v → R w m' → Q v H') ∧ XLk g E as H Z
/-- a base that will do -/
structure GB (K : PySem.W.Frag) (mg : Str → Option Value) (base : Heap) : Prop where
  kin : K.In base
  ns : base.Ns mainGlobals mg
  tb : ∀ p ∈ tabC K, LamX.TabB base mg p.2.1 p.2.2
/-- a def's promise: called with n values, the rest by its defaults -/
def FnB (P : Program) (w : World) (K : PySem.W.Frag) (mg : Str → Option Value) (base : Heap) (k : Nat) (x : Str) (n : Nat) (c : Con) : Prop :=
  ∃ f fd ps ds dvs dw c0, FnOk P w K mg base (CX P w) k f fd ps (spW ⟨K, w, mg⟩ ps.length c0) ∧ ps.length = n + List.length dw ∧ mg x = some (.ref f) ∧ PySem.W.keepIn K (.ref f) = true ∧ Binds K fd ps ds ∧ Vals dvs ds ∧
    (∀ as H, RelWs ⟨K, w, mg⟩ as H dw dvs) ∧ ∀ ws m R Z, c ws m R Z → c0 (ws ++ dw) m R Z
def FnW (P : Program) (w : World) (K : PySem.W.Frag) (mg : Str → Option Value) (k : Nat) (x : Str) (n : Nat) (c : Con) : Prop := ∀ base, GB K mg base → FnB P w K mg base k x n c
def wCall (n : Nat) (c : Con) (t : WA) : WE := fun d m R Z => t d m (fun ws m1 => ws.length = n ∧ c ws m1 R Z) Z
theorem w_call {x : Str} {p : Pos} {e : Expr} {es : List Expr} {t : WA} {n k : Nat} {c : Con} (F : FnB X.prog X.w X.K X.mg X.base k x n c) (hr : Room k X.A) (hg : Gl X x) (hx : Passes (CX X.prog X.w) X E) (ha : PA X (e :: es) (tMA (gOf X) E t))
    (hdb : (x == ("__debug__" : Str)) = false) (he : notStar e = true) (hes : es.all notStar = true) : PE X (.Call (.Name x p) (e :: es) [] pos) (tM (gOf X) E (wCall n c t)) := by
  obtain ⟨f, fd, ps, ds, dvs, dw, c0, F, hn, hm, hk, hb, hv, hw, hc⟩ := F
  refine PE_mono (pe_call F hr hg hm hk hb hv hx ha hdb (starEach_plain he) (starEach_any hes)) fun σ H Q ⟨as, d, m, R, Z, sr, rs, h, ok, ex⟩ => ?_
  refine ⟨as, d, m, _, Z, sr, rs, h, fun ws m1 vs H1 as1 f1 s1 r1 h1 => ?_, ex⟩
  exact ⟨as1, ws ++ dw, m1, R, Z, s1, r1.append (hw _ _), by rw [List.length_append, h1.1, hn], hc _ _ _ _ h1.2, fun w2 m2 v2 H2 as2 f2 s2 r2 h2 => ok w2 m2 v2 H2 as2 (f1.trans f2) s2 r2 h2, ex.fr f1⟩
theorem w_call0 {x : Str} {p : Pos} {n k : Nat} {c : Con} (F : FnB X.prog X.w X.K X.mg X.base k x n c) (hr : Room k X.A) (hg : Gl X x) (hx : Passes (CX X.prog X.w) X E)
    (hdb : (x == ("__debug__" : Str)) = false) : PE X (.Call (.Name x p) [] [] pos) (tM (gOf X) E (wCall n c wNil)) := by
  obtain ⟨f, fd, ps, ds, dvs, dw, c0, F, hn, hm, hk, hb, hv, hw, hc⟩ := F
  refine PE_mono (pe_call0 F hr hg hm hk hb hv hx hdb) fun σ H Q ⟨as, d, m, R, Z, sr, rs, h, ok, ex⟩ => ?_
  have h1 : 0 = n := h.1
  exact ⟨as, dw, m, R, Z, sr, hw _ _, by rw [hn, ← h1, Nat.zero_add], hc _ _ _ _ h.2, ok, ex⟩
end
end FW

namespace FW
open PySem PySem.Spec L2
structure EW where
  nx : List (Option W) → Sto → Prop
  rt : W → Sto → Prop
  ex : WZ
  bk : List (Option W) → Sto → Prop := fun _ _ => False
  ct : List (Option W) → Sto → Prop := fun _ _ => False
abbrev WS := EW → List (Option W) → Sto → Prop
abbrev WG := W → List (Option W) → Sto → (List (Option W) → Sto → Prop) → Prop
/-- two ends of slots and heaps -/
def NLk (g : GE) (as : AS) (H : Hp) (P : List (Option W) → Sto → Prop) (Q : L2.St → Hp → Prop) : Prop :=
  ∀ d m σ H' as', Fr as as' H H' → SR g as' H' m → RelS g as' H' σ d → P d m → Q σ H'
structure SLk (g : GE) (E : XK) (as : AS) (H : Hp) (T : EW) (D : Ends) : Prop where
  nx : NLk g as H T.nx D.nx
  rt : ∀ w m v H' as', Fr as as' H H' → SR g as' H' m → RelW g as' H' w v → T.rt w m → D.rt v H'
  bk : NLk g as H T.bk D.bk
  ct : NLk g as H T.ct D.ct
  ex : XLk g E as H T.ex
theorem NLk.fr {g : GE} {as as' : AS} {H H' : Hp} {P : List (Option W) → Sto → Prop} {Q : L2.St → Hp → Prop} (f : Fr as as' H H') (h : NLk g as H P Q) : NLk g as' H' P Q :=
  fun d m σ H2 as2 f2 s r p => h d m σ H2 as2 (f.trans f2) s r p
theorem SLk.fr {g : GE} {E : XK} {as as' : AS} {H H' : Hp} {T : EW} {D : Ends} (f : Fr as as' H H') (h : SLk g E as H T D) : SLk g E as' H' T D :=
  ⟨h.nx.fr f, fun w m v H2 as2 f2 s r q => h.rt w m v H2 as2 (f.trans f2) s r q, h.bk.fr f, h.ct.fr f, h.ex.fr f⟩
def tMS (g : GE) (E : XK) (t : WS) : TS := fun D σ H => ∃ as d m T, SR g as H m ∧ RelS g as H σ d ∧ t T d m ∧ SLk g E as H T D
def tMG (g : GE) (t : WG) : TG := fun v σ H Q => ∃ as w d m P, SR g as H m ∧ RelW g as H w v ∧ RelS g as H σ d ∧ t w d m P ∧ NLk g as H P Q

def sNext : WS := fun T d m => T.nx d m
def sSeq (t u : WS) : WS := fun T d m => t { T with nx := u T } d m
def sDrop (a : WE) : WS := fun T d m => a d m (fun _ m1 => T.nx d m1) T.ex
def sRet (a : WE) : WS := fun T d m => a d m T.rt T.ex
def sRetN : WS := fun T _ m => T.rt .non m
def sIf (c : WT) (t u : WS) : WS := fun T d m => c d m (fun b m1 => if b = true then t T d m1 else u T d m1) T.ex
def sBreak : WS := fun T d m => T.bk d m
def sCont : WS := fun T d m => T.ct d m
def sNever : WS := fun _ _ _ => False
def gSet (i : Nat) : WG := fun w d m P => P (d.set i (some w)) m
def sAsg (a : WE) (gt : WG) : WS := fun T d m => a d m (fun w m1 => gt w d m1 T.nx) T.ex
def sRaise (x : Str) : WS := fun T _ m => T.ex { cls := x } m
section
variable {X : Cx} {E : XK} {pos : Pos}
theorem SLk.with {g : GE} {as : AS} {H : Hp} {T : EW} {D : Ends} {P : List (Option W) → Sto → Prop} {Q : L2.St → Hp → Prop} (h : SLk g E as H T D) (k : NLk g as H P Q) : SLk g E as H { T with nx := P } { D with nx := Q } := ⟨k, h.rt, h.bk, h.ct, h.ex⟩
theorem s_nil : PSs X [] (tMS (gOf X) E sNext) := PSs_mono pss_nil fun D σ H ⟨as, d, m, T, sr, rs, h, lk⟩ => lk.nx d m σ H as (Fr.refl _ _) sr rs h
theorem s_cons {st : Stmt} {rest : List Stmt} {t u : WS} (h1 : PS X st (tMS (gOf X) E t)) (h2 : PSs X rest (tMS (gOf X) E u)) : PSs X (st :: rest) (tMS (gOf X) E (sSeq t u)) :=
  PSs_mono (pss_cons h1 h2) fun D σ H ⟨as, d, m, T, sr, rs, h, lk⟩ =>
    ⟨as, d, m, { T with nx := u T }, sr, rs, h, lk.with fun d2 m2 σ2 H2 as2 f2 s2 r2 h2 => ⟨as2, d2, m2, T, s2, r2, h2, lk.fr f2⟩⟩
theorem s_one {st : Stmt} {t : WS} (h1 : PS X st (tMS (gOf X) E t)) : PSs X [st] (tMS (gOf X) E t) := pss_one h1
theorem s_pass : PS X (.Pass pos) (tMS (gOf X) E sNext) := PS_mono ps_pass fun D σ H ⟨as, d, m, T, sr, rs, h, lk⟩ => lk.nx d m σ H as (Fr.refl _ _) sr rs h
theorem s_break : PS X (.Break pos) (tMS (gOf X) E sBreak) := PS_mono ps_break fun D σ H ⟨as, d, m, T, sr, rs, h, lk⟩ => lk.bk d m σ H as (Fr.refl _ _) sr rs h
theorem s_cont : PS X (.Continue pos) (tMS (gOf X) E sCont) := PS_mono ps_continue fun D σ H ⟨as, d, m, T, sr, rs, h, lk⟩ => lk.ct d m σ H as (Fr.refl _ _) sr rs h
theorem s_drop {e : Expr} {te : WE} (he : PE X e (tM (gOf X) E te)) (hs : swapsWith e none pos.line X.env = pure false) : PS X (.Expr e pos) (tMS (gOf X) E (sDrop te)) :=
  PS_mono (ps_expr he hs) fun D σ H ⟨as, d, m, T, sr, rs, h, lk⟩ =>
    ⟨as, d, m, _, T.ex, sr, rs, h, fun w m1 v H1 as1 f1 s1 r1 h1 => lk.nx d m1 σ H1 as1 f1 s1 (rs.fr f1) h1, lk.ex⟩
theorem s_ret {e : Expr} {te : WE} (he : PE X e (tM (gOf X) E te)) : PS X (.Return (some e) pos) (tMS (gOf X) E (sRet te)) :=
  PS_mono (ps_ret he) fun D σ H ⟨as, d, m, T, sr, rs, h, lk⟩ => ⟨as, d, m, T.rt, T.ex, sr, rs, h, lk.rt, lk.ex⟩
theorem s_retN : PS X (.Return none pos) (tMS (gOf X) E sRetN) := PS_mono ps_retN fun D σ H ⟨as, d, m, T, sr, rs, h, lk⟩ => lk.rt .non m .non H as (Fr.refl _ _) sr .non h
theorem s_never {st : Stmt} : PS X st (tMS (gOf X) E sNever) := PS_mono ps_never fun D σ H ⟨as, d, m, T, sr, rs, h, lk⟩ => h.elim
theorem s_if {c : Expr} {a b : List Stmt} {tc : WT} {t u : WS} (hc : PT X c (tMT (gOf X) E tc)) (ha : PSs X a (tMS (gOf X) E t)) (hb : PSs X b (tMS (gOf X) E u)) : PS X (.If c a b pos) (tMS (gOf X) E (sIf tc t u)) :=
  PS_mono (ps_if hc ha hb) fun D σ H ⟨as, d, m, T, sr, rs, h, lk⟩ => by
    refine ⟨as, d, m, _, T.ex, sr, rs, h, fun k m1 k' H1 as1 f1 s1 e h1 => ?_, lk.ex⟩
    subst e
    cases k with
    | true => exact iteT ⟨as1, d, m1, T, s1, rs.fr f1, by simpa using h1, lk.fr f1⟩
    | false => exact iteF ⟨as1, d, m1, T, s1, rs.fr f1, by simpa using h1, lk.fr f1⟩
/-- name = e -/
theorem s_set {i : Nat} {x : Str} {e : Expr} {te : WE} {p : Pos} (hN : X.N.Nodup) (hi : X.N[i]? = some x) (hx : Loc X.env.scope x) (he : PE X e (tM (gOf X) E te)) (hs : swapsWith e (some (.Name x p)) pos.line X.env = pure false)
    (hf : X.fn x = true ∨ X.env.scope.names.lookup x = some .local) : PS X (.Assign [.Name x p] e pos) (tMS (gOf X) E (sAsg te (gSet i))) :=
  PS_mono (ps_set hN hi hx he hs hf) fun D σ H ⟨as, d, m, T, sr, rs, h, lk⟩ =>
    ⟨as, d, m, _, T.ex, sr, rs, h, fun w m1 v H1 as1 f1 s1 r1 h1 => lk.nx _ m1 _ H1 as1 f1 s1 ((rs.fr f1).set r1 i) h1, lk.ex⟩
/-- target = e -/
theorem s_asg {tg e : Expr} {te : WE} {gt : WG} (he : PE X e (tM (gOf X) E te)) (hg : PG X tg (tMG (gOf X) gt)) (hs : swapsWithSole [tg] e pos.line X.env = pure false) (hw : swappedStores [tg] e X.env = pure none)
    (h1 : (assignEach [tg] X.env).map (·.2) = [assign tg X.env]) : PS X (.Assign [tg] e pos) (tMS (gOf X) E (sAsg te gt)) :=
  PS_mono (ps_asg he hg hs hw h1) fun D σ H ⟨as, d, m, T, sr, rs, h, lk⟩ =>
    ⟨as, d, m, _, T.ex, sr, rs, h, fun w m1 v H1 as1 f1 s1 r1 h1 => ⟨as1, w, d, m1, T.nx, s1, r1, rs.fr f1, h1, lk.nx.fr f1⟩, lk.ex⟩
theorem g_name {i : Nat} {x : Str} (hN : X.N.Nodup) (hi : X.N[i]? = some x) (hx : Loc X.env.scope x) (hf : X.fn x = true ∨ X.env.scope.names.lookup x = some .local) : PG X (.Name x pos) (tMG (gOf X) (gSet i)) :=
  PG_mono (pg_name hN hi hx hf) fun v σ H Q ⟨as, w, d, m, P, sr, rw', rs, h, lk⟩ => lk _ m _ H as (Fr.refl _ _) sr (rs.set rw' i) h
/-- (a, b, ..) = a tuple, names alone -/
def gsetN : List Nat → List W → List (Option W) → List (Option W)
  | i :: is, w :: ws, d => gsetN is ws (d.set i (some w))
  | _, _, d => d
def gTupN (is : List Nat) : WG := fun w d m P => match w with
  | .tup ws => ws.length = is.length ∧ P (gsetN is ws d) m
  | .tpu ws => ws.length = is.length ∧ P (gsetN is ws d) m
  | _ => False
/-- several names -/
def tgsN : List Nat → TGs
  | [] => gNil
  | i :: is => gCons (gName i) (tgsN is)
theorem tgsN_run {g : GE} {as : AS} {H : Hp} {Q : L2.St → Hp → Prop} : ∀ {is : List Nat} {ws : List W} {vs : List V} {d : List (Option W)} {σ : L2.St}, ws.length = is.length → RelWs g as H ws vs → RelS g as H σ d →
    (∀ σ2, RelS g as H σ2 (gsetN is ws d) → (∀ us : List Nat, (∀ i ∈ is, i ∈ us) → (∀ i v (s : L2.St), i ∈ us → L2.wipe (s.set i v) us = L2.wipe s us) → L2.wipe σ2 us = L2.wipe σ us) → Q σ2 H) → tgsN is vs σ H Q
  | [], ws, vs, d, σ, hl, rv, rs, h => by
    cases ws with
    | nil => cases rv; exact ⟨rfl, h σ rs fun _ _ _ => rfl⟩
    | cons _ _ => simp at hl
  | i :: is, ws, vs, d, σ, hl, rv, rs, h => by
    cases ws with
    | nil => simp at hl
    | cons w ws =>
      cases rv with
      | cons r1 rr =>
        refine ⟨_, _, rfl, ?_⟩
        exact tgsN_run (by simpa using hl) rr (rs.set r1 i) fun σ2 r2 hw => h σ2 r2 fun us hi hs => by
          rw [hw us (fun j hj => hi j (List.mem_cons_of_mem _ hj)) hs, hs i _ _ (hi i List.mem_cons_self)]
abbrev NamesAt (X : Cx) (es : List Expr) (is : List Nat) : Prop := PGs X es (tgsN is)
theorem names_nil : NamesAt X [] [] := pgs_nil
theorem assignEach_name {x : Str} {p : Pos} {es : List Expr} {env : Env} : (assignEach (.Name x p :: es) env).map (·.2) = assign (.Name x p) env :: (assignEach es env).map (·.2) := rfl
theorem names_cons {i : Nat} {x : Str} {p : Pos} {es : List Expr} {is : List Nat} (hN : X.N.Nodup) (hi : X.N[i]? = some x) (hx : Loc X.env.scope x) (hf : X.fn x = true ∨ X.env.scope.names.lookup x = some .local) (h : NamesAt X es is) : NamesAt X (.Name x p :: es) (i :: is) :=
  pgs_cons (pg_name hN hi hx hf) h assignEach_name
theorem g_tup {es : List Expr} {is : List Nat} {k : Nat} (hc : X.calm = true) (h : NamesAt X es is) (hn : (assignEach es X.env).length = is.length) (hst : (assignEach es X.env).findIdx? (·.1) = none) :
    PG X (.Tuple es k pos) (tMG (gOf X) (gTupN is)) :=
  PG_mono (pg_tup hc h hn hst) fun v σ H Q ⟨as, w, d, m, P, sr, rw', rs, h1, lk⟩ => by
    unfold gTupN at h1
    split at h1
    · rename_i ws
      obtain ⟨a, vs, rfl, h2, h0, h3⟩ := relT rw'
      exact ⟨a, vs, rfl, .inl h2, by rw [← h3.length]; exact h1.1, tgsN_run h1.1 h3 rs fun σ2 r2 _ => lk _ m σ2 H as (Fr.refl _ _) sr r2 h1.2⟩
    · rename_i ws
      cases rw' with
      | tpu h0 h2 h3 => exact ⟨_, _, rfl, .inl (.inl h2), by rw [← h3.length]; exact h1.1, tgsN_run h1.1 h3 rs fun σ2 r2 _ => lk _ m σ2 H as (Fr.refl _ _) sr r2 h1.2⟩
    · exact h1.elim
/-- a, b = x, y -/
def sPar (is : List Nat) (t : WA) : WS := fun T d m => t d m (fun ws m1 => ws.length = is.length ∧ T.nx (gsetN is ws d) m1) T.ex
theorem s_par2 {i j : Nat} {x y : Str} {a b : Expr} {ta : WA} {px py pt : Pos} {kt k2 pt2} (hc : X.calm = true) (hN : X.N.Nodup) (hi : X.N[i]? = some x) (hj : X.N[j]? = some y) (hij : i ≠ j)
    (hx : X.env.scope.names.lookup x = some .local) (hy : X.env.scope.names.lookup y = some .local) (ha : PA X [a, b] (tMA (gOf X) E ta))
    (hw : swappedStores [.Tuple [.Name x px, .Name y py] kt pt] (.Tuple [a, b] k2 pt2) X.env = pure (some [x, y])) :
    PS X (.Assign [.Tuple [.Name x px, .Name y py] kt pt] (.Tuple [a, b] k2 pt2) pos) (tMS (gOf X) E (sPar [i, j] ta)) :=
  PS_mono (ps_par hc hN hi hj hij hx hy ha hw) fun D σ H ⟨as, d, m, T, sr, rs, h, lk⟩ => by
    refine ⟨as, d, m, _, T.ex, sr, rs, h, fun ws m1 vs H1 as1 f1 s1 r1 h1 => ?_, lk.ex⟩
    match ws, h1 with
    | [w1, w2], h1 =>
      obtain ⟨v1, v2, rfl, q1, q2⟩ := r1.two
      exact ⟨v1, v2, rfl, lk.nx _ m1 _ H1 as1 f1 s1 (((rs.fr f1).set q1 i).set q2 j) h1.2⟩
theorem s_par3 {i j l : Nat} {x y z : Str} {a b c : Expr} {ta : WA} {px py pz pt : Pos} {kt k2 pt2} (hc : X.calm = true) (hN : X.N.Nodup) (hi : X.N[i]? = some x) (hj : X.N[j]? = some y) (hl : X.N[l]? = some z) (hij : i ≠ j) (hil : i ≠ l) (hjl : j ≠ l)
    (hx : X.env.scope.names.lookup x = some .local) (hy : X.env.scope.names.lookup y = some .local) (hz : X.env.scope.names.lookup z = some .local) (ha : PA X [a, b, c] (tMA (gOf X) E ta))
    (hw : swappedStores [.Tuple [.Name x px, .Name y py, .Name z pz] kt pt] (.Tuple [a, b, c] k2 pt2) X.env = pure (some [x, y, z])) :
    PS X (.Assign [.Tuple [.Name x px, .Name y py, .Name z pz] kt pt] (.Tuple [a, b, c] k2 pt2) pos) (tMS (gOf X) E (sPar [i, j, l] ta)) :=
  PS_mono (ps_par3 hc hN hi hj hl hij hil hjl hx hy hz ha hw) fun D σ H ⟨as, d, m, T, sr, rs, h, lk⟩ => by
    refine ⟨as, d, m, _, T.ex, sr, rs, h, fun ws m1 vs H1 as1 f1 s1 r1 h1 => ?_, lk.ex⟩
    match ws, h1 with
    | [w1, w2, w3], h1 =>
      cases r1 with
      | cons q1 t1 =>
        obtain ⟨v2, v3, rfl, q2, q3⟩ := t1.two
        exact ⟨_, v2, v3, rfl, lk.nx _ m1 _ H1 as1 f1 s1 ((((rs.fr f1).set q1 i).set q2 j).set q3 l) h1.2⟩
/-- raise X('..'): a class over FormError without an own __init__ -/
structure XOk (X : Cx) (x : Str) : Prop where
  ex : ∃ C, X.mg x = some (.ref C) ∧ PySem.W.excIn X.K C He.veBase "ValueError.__new__" = true ∧ PySem.W.keepIn X.K (.ref C) = true ∧ PySem.W.subIn X.K (.ref C) (.type "BaseException") = some true ∧ PySem.W.typeIn X.K (.ref C) = some (.type "type")
theorem s_raise {x m : Str} {j : Nat} {p p2 p3 : Pos} (hc : X.calm = true) (tk : Takes X (fun cls d _ H => E cls d H)) (ok : XOk X x) (hg : Gl X x) (hdb : (x == ("__debug__" : Str)) = false) :
    PS X (.Raise (some (.Call (.Name x p) [.Constant (.str m) j p2] [] p3)) none pos) (tMS (gOf X) E (sRaise x)) := by
  obtain ⟨C, h1, h2, h3, h4, h5⟩ := ok.ex
  refine PS_mono (L2N.ps_raise hc tk (L2N.pmk_own PySem.F.excBase_ValueError h2 h1 h3 (raises_own h4 h5) hg hdb)) fun D σ H ⟨as, d, m, T, sr, rs, h, lk⟩ => ?_
  exact lk.ex _ m H as _ _ (Fr.refl _ _) sr ⟨C, h1, rfl, fun _ => rfl, fun z => absurd rfl z⟩ h
end
end FW

namespace FW
open PySem PySem.Spec L2
abbrev WI := List (Option W) → Sto → (List W → (Sto → Prop) → Sto → Prop) → WZ → Prop
/-- what a loop walks: the items, and what must stay true of the store meanwhile -/
structure ItR (g : GE) (J : It) (as0 : AS) (H0 : Hp) (items : List W) (still : Sto → Prop) : Prop where
  go : ∀ i w as H m, Fr0 as0 as H0 H → SR g as H m → still m → items[i]? = some w → J.go i H ∧ ∀ x H', J.yld i H x H' → Fr as as H H' ∧ SR g as H' m ∧ RelW g as H' w x
  stop : ∀ as H m, Fr0 as0 as H0 H → SR g as H m → still m → J.stop items.length H
def tMI (g : GE) (E : XK) (t : WI) : TI := fun σ H R => ∃ as d m Q Z, SR g as H m ∧ RelS g as H σ d ∧ t d m Q Z ∧
  (∀ items still m' J H' as', Fr as as' H H' → SR g as' H' m' → ItR g J as' H' items still → Q items still m' → R J H') ∧ XLk g E as H Z
def yes : Sto → Prop := fun _ => True

def keyW : Key → W
  | .inl i => .int i
  | .inr z => .str z
/-- a dict of the store that will not change -/
def dclOf (m : Sto) : W → Option (Obj × List (Key × V) × List (Key × W))
  | .ref n => (match m[n]? with
    | some (.dcl o vs l) => some (o, vs, l)
    | _ => none)
  | _ => none
theorem relDl {g : GE} {as : AS} {H : Hp} {m : Sto} {w : W} {v : V} {o : Obj} {vs : List (Key × V)} {l : List (Key × W)} (s : SR g as H m) (r : RelW g as H w v) (e : dclOf m w = some (o, vs, l)) : ∃ n a, w = .ref n ∧ v = .ref a ∧ as.l[n]? = some a ∧ H a = some (.frz o (.dK vs)) ∧ RelKs g as H l vs := by
  cases r with
  | @ref n a h =>
    simp only [dclOf] at e
    split at e
    · rename_i o' vs' l' q
      cases e
      obtain ⟨h1, h2⟩ := s.ok n a _ h q
      exact ⟨n, a, rfl, rfl, h, h1, h2⟩
    · cases e
  | _ => cases e
theorem RelKs.key {g : GE} {as : AS} {H : Hp} : ∀ {ws : List (Key × W)} {vs : List (Key × V)} {i : Nat} {w : W}, RelKs g as H ws vs → (ws.map fun p => keyW p.1)[i]? = some w → i < vs.length ∧ ∀ k v, vs[i]? = some (k, v) → RelW g as H w (kV k)
  | _, _, _, _, .nil, e => by simp at e
  | (k, w) :: ws, _, 0, _, .cons r t, e => by
    simp at e; subst e
    refine ⟨by simp, fun k' v' h => ?_⟩
    simp at h
    obtain ⟨rfl, rfl⟩ := h
    cases k with
    | inl i => exact .int i
    | inr z => exact .str z
  | _ :: ws, _, i + 1, _, .cons r t, e => by
    obtain ⟨h1, h2⟩ := RelKs.key (i := i) t (by simpa using e)
    exact ⟨by simp; omega, fun k v h => h2 k v (by simpa using h)⟩
/-- a list, a tuple, a text, a dict that will not change -/
def wIt (a : WE) : WI := fun d m Q Z => a d m (fun w m1 => match w with
  | .tup l => Q l yes m1
  | .lst l => Q l yes m1
  | .fzl l => Q l yes m1
  | .str z => Q (z.cps.toList.map fun c => .str ⟨#[c]⟩) yes m1
  | w => (match lstOf m1 w with
    | some l => Q l (fun m2 => lstOf m2 w = some l) m1
    | none => (match dclOf m1 w with
      | some q => Q (q.2.2.map fun p => keyW p.1) (fun m2 => dclOf m2 w = some q) m1
      | none => False))) Z
section
variable {X : Cx} {E : XK} {pos : Pos} {tg : Expr}
def iAny (K : PySem.W.Frag) (tl : TE) : TI := fun σ H R => tl σ H fun x H1 => (∃ a, x = .ref a ∧ (∃ xs, SqL K H1 a xs) ∧ R (Itl K a) H1) ∨ (∃ a, x = .ref a ∧ (∃ xs, SqT K H1 a xs) ∧ R (Itt K a) H1) ∨ (∃ z, x = .str z ∧ R (Its z) H1) ∨ ∃ d o kvs, x = .ref d ∧ H1 d = some (.frz o (.dK kvs)) ∧ R (Itk d o kvs) H1
theorem pi_any {l : Expr} {tl : TE} (hl : PE X l tl) : PI X tg l (iAny X.K tl) := by
  refine ⟨fun pins s σ H R I h => ?_⟩
  refine thn (hl.run pins s σ H _ I h) fun v s1 ⟨x, H1, I1, r1, q1⟩ => ?_
  rcases q1 with ⟨a, e, ⟨xs, hq⟩, q⟩ | ⟨a, e, ⟨xs, hq⟩, q⟩ | ⟨z, e, q⟩ | ⟨dd, oo, kvs, e, hd, q⟩
  · subst e
    cases r1
    obtain ⟨its, rv, p, hz⟩ := I1.list hq
    refine wpAny_pyIter_list p.isList ?_
    refine ⟨s1.heap.objs.size, [s1.heap.objs.size], _, _, H1, rfl, I1.kept (t' := s1.toks) fun b o e => Heap.get?_push_of_some _ e, turn_list a _, ⟨_, Heap.get?_push_size _ rfl, rfl, rfl⟩, fun b hb => ?_, q⟩
    have e : b = s1.heap.objs.size := by simpa using hb
    subst e
    exact I1.fpOk (Nat.le_refl _) (I1.hok.fresh (Nat.le_refl _))
  · subst e
    cases r1
    obtain ⟨its, rv, p, hz⟩ := I1.tuple hq
    refine wpAny_pyIter_tuple (show s1.heap.IsTuple a its.toArray from p) ?_
    refine ⟨s1.heap.objs.size, [s1.heap.objs.size], _, _, H1, rfl, I1.kept (t' := s1.toks) fun b o e => Heap.get?_push_of_some _ e, turn_tuple a _, ⟨_, Heap.get?_push_size _ rfl, rfl, rfl⟩, fun b hb => ?_, q⟩
    have e : b = s1.heap.objs.size := by simpa using hb
    subst e
    exact I1.fpOk (Nat.le_refl _) (I1.hok.fresh (Nat.le_refl _))
  · subst e
    obtain ⟨t, rfl⟩ := r1
    cases ha : z.cps.all (· < 128)
    · exact wpAny_pyIter_wide ha (pi_one (tk := s1.toks) I1 _ (turn_str _ z t "str_iterator" (.inr rfl)) ⟨_, Heap.get?_push_size _ rfl, rfl, rfl⟩ q)
    · exact wpAny_pyIter_ascii ha (pi_one (tk := s1.toks) I1 _ (turn_str _ z t "str_ascii_iterator" (.inl rfl)) ⟨_, Heap.get?_push_size _ rfl, rfl, rfl⟩ q)
  · subst e
    obtain rfl : v = Value.ref dd := r1
    obtain ⟨hs, hgd, hx, es, ep, vs, hdt, hsz, kv, hm⟩ := I1.frzK hd
    refine iter_keys hs hgd hx hdt (pi_one (tk := s1.toks) I1 _ (turn_keys _ hdt) ⟨_, Heap.get?_push_size _ rfl, rfl, ?_⟩ q)
    rw [hsz] <;> rfl
theorem itr_tup {g : GE} {as : AS} {H : Hp} {l : List W} {v : V} (r : RelW g as H (.tup l) v) : ∃ a, v = .ref a ∧ (∃ xs, SqT g.K H a xs) ∧ ItR g (Itt g.K a) as H l yes := by
  obtain ⟨a, vs, rfl, h2, h0, h3⟩ := relT r
  refine ⟨a, rfl, ⟨vs, .inl h2⟩, fun i w as1 H1 m f sr st e => ?_, fun as1 H1 m f sr st => ?_⟩
  · obtain ⟨a', vs', e', k2, k0, k3⟩ := relT (r.fr0 f)
    cases e'
    obtain ⟨x, ex, rx⟩ := k3.get e
    refine ⟨⟨vs', x, .inl k2, ex⟩, fun y H' hy => ?_⟩
    obtain ⟨rfl, q⟩ := hy
    have q2 := q vs' (.inl k2)
    rw [ex] at q2; cases q2
    exact ⟨Fr.refl _ _, sr, rx⟩
  · obtain ⟨a', vs', e', k2, k0, k3⟩ := relT (r.fr0 f)
    cases e'
    exact ⟨vs', .inl k2, by rw [k3.length]; exact Nat.le_refl _⟩
theorem itr_lst {g : GE} {as : AS} {H : Hp} {w : W} {v : V} {l : List W} {m0 : Sto} (s0 : SR g as H m0) (r : RelW g as H w v) (still : Sto → Prop) (hs : ∀ m, still m → lstOf m w = some l) (h0 : lstOf m0 w = some l) :
    ∃ a, v = .ref a ∧ (∃ xs, SqL g.K H a xs) ∧ ItR g (Itl g.K a) as H l still := by
  obtain ⟨a, vs, rfl, h2, h3⟩ := relL s0 r h0
  refine ⟨a, rfl, ⟨vs, h2⟩, fun i w1 as1 H1 m f sr st e => ?_, fun as1 H1 m f sr st => ?_⟩
  · obtain ⟨a', vs', e', k2, k3⟩ := relL sr (r.fr0 f) (hs m st)
    cases e'
    obtain ⟨x, ex, rx⟩ := k3.get e
    refine ⟨⟨vs', x, k2, ex⟩, fun y H' hy => ?_⟩
    obtain ⟨rfl, q⟩ := hy
    have q2 := q vs' k2
    rw [ex] at q2; cases q2
    exact ⟨Fr.refl _ _, sr, rx⟩
  · obtain ⟨a', vs', e', k2, k3⟩ := relL sr (r.fr0 f) (hs m st)
    cases e'
    exact ⟨vs', k2, by rw [k3.length]; exact Nat.le_refl _⟩
theorem itr_str {g : GE} {as : AS} {H : Hp} {z : Str} : ItR g (Its z) as H (z.cps.toList.map fun c => W.str ⟨#[c]⟩) yes := by
  refine ⟨fun i w as1 H1 m f sr st e => ?_, fun as1 H1 m f sr st => ?_⟩
  · rw [List.getElem?_map] at e
    cases q : z.cps.toList[i]? with
    | none => rw [q] at e; cases e
    | some c =>
      rw [q] at e; cases e
      have q1 : z.cps[i]? = some c := by simpa using q
      refine ⟨(Array.getElem?_eq_some_iff.mp q1).1, fun y H' hy => ?_⟩
      obtain ⟨rfl, c', q2, rfl⟩ := hy
      rw [q1] at q2; cases q2
      exact ⟨Fr.refl _ _, sr, .str _⟩
  · show z.cps.size ≤ (z.cps.toList.map fun c => W.str ⟨#[c]⟩).length
    simp
theorem itr_keys {g : GE} {as : AS} {H : Hp} {w : W} {a : Addr} {o : Obj} {vs : List (Key × V)} {l : List (Key × W)} (r : RelW g as H w (.ref a)) :
    ItR g (Itk a o vs) as H (l.map fun p => keyW p.1) (fun m2 => dclOf m2 w = some (o, vs, l)) := by
  refine ⟨fun i w1 as1 H1 m f sr st e => ?_, fun as1 H1 m f sr st => ?_⟩
  · obtain ⟨n, a', rfl, e', k0, k1, k2⟩ := relDl sr (r.fr0 f) st
    cases e'
    obtain ⟨h1, h2⟩ := k2.key e
    refine ⟨⟨k1, h1⟩, fun y H' hy => ?_⟩
    obtain ⟨rfl, k, v, e2, rfl⟩ := hy
    exact ⟨Fr.refl _ _, sr, h2 k v e2⟩
  · obtain ⟨n, a', rfl, e', k0, k1, k2⟩ := relDl sr (r.fr0 f) st
    cases e'
    exact ⟨k1, by rw [List.length_map, k2.length]; exact Nat.le_refl _⟩
theorem i_any {l : Expr} {tl : WE} (hl : PE X l (tM (gOf X) E tl)) : PI X tg l (tMI (gOf X) E (wIt tl)) :=
  PI_mono (pi_any hl) fun σ H R ⟨as, d, m, Q, Z, sr, rs, h, ok, ex⟩ => by
    refine ⟨as, d, m, _, Z, sr, rs, h, fun w m1 v H1 as1 f1 s1 r1 h1 => ?_, ex⟩
    split at h1
    · obtain ⟨a, e, hx, it⟩ := itr_tup r1
      exact .inr (.inl ⟨a, e, hx, ok _ _ m1 _ H1 as1 f1 s1 it h1⟩)
    · obtain ⟨a, e, hx, it⟩ := itr_lst s1 r1 yes (fun _ _ => rfl) rfl
      exact .inl ⟨a, e, hx, ok _ _ m1 _ H1 as1 f1 s1 it h1⟩
    · obtain ⟨a, e, hx, it⟩ := itr_lst s1 r1 yes (fun _ _ => rfl) rfl
      exact .inl ⟨a, e, hx, ok _ _ m1 _ H1 as1 f1 s1 it h1⟩
    · rename_i z
      exact .inr (.inr (.inl ⟨z, relStr r1, ok _ _ m1 _ H1 as1 f1 s1 itr_str h1⟩))
    · cases e : lstOf m1 w with
      | none =>
        rw [e] at h1
        simp only [] at h1
        cases e2 : dclOf m1 w with
        | none => rw [e2] at h1; exact h1.elim
        | some q =>
          rw [e2] at h1
          obtain ⟨o, vs, l⟩ := q
          obtain ⟨n, a, rfl, rfl, k0, k1, k2⟩ := relDl s1 r1 e2
          exact .inr (.inr (.inr ⟨a, o, vs, rfl, k1, ok _ _ m1 _ H1 as1 f1 s1 (itr_keys r1) h1⟩))
      | some l =>
        rw [e] at h1
        obtain ⟨a, e1, hx, it⟩ := itr_lst s1 r1 (fun m2 => lstOf m2 w = some l) (fun _ h => h) e
        exact .inl ⟨a, e1, hx, ok _ _ m1 _ H1 as1 f1 s1 it h1⟩
/-- range(a), range(a, b) -/
def rangeW (lo : Int) (n : Nat) : List W := (List.range n).map fun (i : Nat) => W.int (lo + (i : Int))
def wRange1 (t : WA) : WI := fun d m Q Z => t d m (fun ws m1 => match ws with
  | [.int j] => -(2 ^ 62) ≤ j ∧ j < 2 ^ 62 ∧ Q (rangeW 0 j.toNat) yes m1
  | _ => False) Z
def wRange2 (t : WA) : WI := fun d m Q Z => t d m (fun ws m1 => match ws with
  | [.int i, .int j] => -(2 ^ 62) ≤ i ∧ i < 2 ^ 62 ∧ -(2 ^ 62) ≤ j ∧ j < 2 ^ 62 ∧ Q (rangeW i (j - i).toNat) yes m1
  | _ => False) Z
theorem rangeW_get {lo : Int} {n i : Nat} {w : W} (e : (rangeW lo n)[i]? = some w) : i < n ∧ w = .int (lo + i) := by
  unfold rangeW at e
  rw [List.getElem?_map] at e
  cases q : (List.range n)[i]? with
  | none => rw [q] at e; cases e
  | some k =>
    rw [q] at e; cases e
    obtain ⟨h1, h2⟩ := List.getElem?_eq_some_iff.mp q
    simp at h1 h2
    subst h2
    exact ⟨h1, rfl⟩
theorem itr_range {g : GE} {as : AS} {H : Hp} {lo : Int} {n : Nat} : ItR g (Itr lo n) as H (rangeW lo n) yes := by
  refine ⟨fun i w as1 H1 m f sr st e => ?_, fun as1 H1 m f sr st => ?_⟩
  · obtain ⟨h1, rfl⟩ := rangeW_get e
    refine ⟨h1, fun y H' hy => ?_⟩
    obtain ⟨rfl, rfl⟩ := hy
    exact ⟨Fr.refl _ _, sr, .int _⟩
  · show n ≤ (rangeW lo n).length
    unfold rangeW
    simp
def rangeC (lo c : Int) (n : Nat) : List W := (List.range n).map fun (i : Nat) => W.int (lo + (i : Int) * c)
def wRange3 (t : WA) : WI := fun d m Q Z => t d m (fun ws m1 => match ws with
  | [.int i, .int j, .int c] => ∃ n, RgC i j c n ∧ Q (rangeC i c n) yes m1
  | _ => False) Z
theorem rangeC_get {lo c : Int} {n i : Nat} {w : W} (e : (rangeC lo c n)[i]? = some w) : i < n ∧ w = .int (lo + i * c) := by
  unfold rangeC at e
  rw [List.getElem?_map] at e
  by_cases h : i < n
  · rw [List.getElem?_range h] at e
    exact ⟨h, (Option.some.inj e).symm⟩
  · rw [List.getElem?_eq_none (by simpa using h)] at e; cases e
theorem itr_rangeC {g : GE} {as : AS} {H : Hp} {lo c : Int} {n : Nat} : ItR g (Itc lo c n) as H (rangeC lo c n) yes where
  go := by
    intro i w as1 H1 m f s _ e
    obtain ⟨h1, h2⟩ := rangeC_get e
    refine ⟨h1, fun x H' q => ?_⟩
    obtain ⟨q1, q2⟩ := (show H' = H1 ∧ x = .int (lo + (i : Nat) * c) from q)
    subst q1 q2 h2
    exact ⟨Fr.refl _ _, s, .int _⟩
  stop := by
    intro as1 H1 m f s _
    show n ≤ (rangeC lo c n).length
    simp [rangeC]
theorem i_range1 {a : Expr} {ta : WA} {p : Pos} (hg : Gl X "range") (hm : X.mg "range" = none) (ha : PA X [a] (tMA (gOf X) E ta)) (hs : notStar a = true) : PI X tg (.Call (.Name "range" p) [a] [] pos) (tMI (gOf X) E (wRange1 ta)) :=
  PI_mono (pi_range1 hg hm ha (starEach_plain hs)) fun σ H R ⟨as, d, m, Q, Z, sr, rs, h, ok, ex⟩ => by
    refine ⟨as, d, m, _, Z, sr, rs, h, fun ws m1 vs H1 as1 f1 s1 r1 h1 => ?_, ex⟩
    split at h1
    · obtain ⟨v, rfl, q⟩ := r1.one
      rw [relInt q]
      exact ⟨_, rfl, h1.1, h1.2.1, ok _ _ m1 _ H1 as1 f1 s1 itr_range h1.2.2⟩
    · exact h1.elim
theorem i_range2 {a b : Expr} {ta : WA} {p : Pos} (hg : Gl X "range") (hm : X.mg "range" = none) (ha : PA X [a, b] (tMA (gOf X) E ta)) (hs : notStar a = true) (hs2 : notStar b = true) : PI X tg (.Call (.Name "range" p) [a, b] [] pos) (tMI (gOf X) E (wRange2 ta)) :=
  PI_mono (pi_range2 hg hm ha (by rw [starEach_plain hs, starEach_plain hs2]; rfl) (starEach_plain hs2)) fun σ H R ⟨as, d, m, Q, Z, sr, rs, h, ok, ex⟩ => by
    refine ⟨as, d, m, _, Z, sr, rs, h, fun ws m1 vs H1 as1 f1 s1 r1 h1 => ?_, ex⟩
    split at h1
    · obtain ⟨v1, v2, rfl, q1, q2⟩ := r1.two
      rw [relInt q1, relInt q2]
      exact ⟨_, _, rfl, ⟨h1.1, h1.2.1, h1.2.2.1, h1.2.2.2.1⟩, ok _ _ m1 _ H1 as1 f1 s1 itr_range h1.2.2.2.2⟩
    · exact h1.elim
theorem i_range3 {a b c : Expr} {ta : WA} {p : Pos} (hg : Gl X "range") (hm : X.mg "range" = none) (ha : PA X [a, b, c] (tMA (gOf X) E ta)) (hs : notStar a = true) (hs2 : notStar b = true) (hs3 : notStar c = true) : PI X tg (.Call (.Name "range" p) [a, b, c] [] pos) (tMI (gOf X) E (wRange3 ta)) :=
  PI_mono (pi_range3 hg hm ha (starEach_plain hs) (by rw [starEach_plain hs2, starEach_plain hs3]; rfl)) fun σ H R ⟨as, d, m, Q, Z, sr, rs, h, ok, ex⟩ => by
    refine ⟨as, d, m, _, Z, sr, rs, h, fun ws m1 vs H1 as1 f1 s1 r1 h1 => ?_, ex⟩
    split at h1
    · obtain ⟨n, h2, h3⟩ := h1
      cases r1 with
      | cons q1 r1 =>
        obtain ⟨v2, v3, rfl, q2, q3⟩ := r1.two
        rw [relInt q1, relInt q2, relInt q3]
        exact ⟨_, _, _, n, rfl, h2, ok _ _ m1 _ H1 as1 f1 s1 itr_rangeC h3⟩
    · exact h1.elim
def sForL (still : Sto → Prop) (gt : WG) (body : WS) (T : EW) : List W → List (Option W) → Sto → Prop
  | [], d, m => still m ∧ T.nx d m
  | w :: ws, d, m => still m ∧ gt w d m (fun d1 m1 => body { T with nx := sForL still gt body T ws, ct := sForL still gt body T ws, bk := T.nx } d1 m1)
def sFor (it : WI) (gt : WG) (body : WS) : WS := fun T d m => it d m (fun items still m1 => sForL still gt body T items d m1) T.ex
theorem s_for {iter : Expr} {body : List Stmt} {it : WI} {gt : WG} {tb : WS} (hp : PassesOwn (model X.prog X.w) X.A X.env X.xe) (hc : X.calm = true) (hi : PI X tg iter (tMI (gOf X) E it)) (hg : PG X tg (tMG (gOf X) gt)) (hb : PSs X body (tMS (gOf X) E tb))
    (hs : ∀ x, foldedSetIterable iter X.env x = pure x) : PS X (.For tg iter body [] pos) (tMS (gOf X) E (sFor it gt tb)) :=
  PS_mono (ps_for hp hc hi hg hb hs) fun D σ H ⟨as, d, m, T, sr, rs, h, lk⟩ => by
    refine ⟨as, d, m, _, T.ex, sr, rs, h, fun items still m1 J H1 as1 f1 s1 itr hw => ?_, lk.ex⟩
    refine ⟨fun i k σ' H' => ∃ as' d' m', Fr as1 as' H1 H' ∧ SR (gOf X) as' H' m' ∧ RelS (gOf X) as' H' σ' d' ∧ k = items.length - i ∧ i ≤ items.length ∧ sForL still gt tb T (items.drop i) d' m',
      ⟨items.length, as1, d, m1, Fr.refl _ _, s1, rs.fr f1, rfl, Nat.zero_le _, hw⟩, fun i k σ' H' ⟨as', d', m', f', s', r', ek, hi', hw'⟩ => ?_⟩
    cases e : items.drop i with
    | nil =>
      rw [e] at hw'
      have hl : i = items.length := by
        have := List.drop_eq_nil_iff.mp e
        omega
      subst hl
      exact .inl ⟨itr.stop as' H' m' f'.toFr0 s' hw'.1, lk.nx d' m' σ' H' as' (f1.trans f') s' r' hw'.2⟩
    | cons w ws =>
      rw [e] at hw'
      have hlt : i < items.length := by
        apply Nat.lt_of_not_le
        intro z
        rw [List.drop_eq_nil_iff.mpr z] at e; cases e
      have hget : items[i]? = some w := by
        have := List.getElem?_drop (xs := items) (i := i) (j := 0)
        rw [e] at this
        simpa using this.symm
      have hdr : items.drop (i + 1) = ws := by
        have : items.drop (i + 1) = (items.drop i).drop 1 := by rw [List.drop_drop]
        rw [this, e]; rfl
      obtain ⟨hgo, hy⟩ := itr.go i w as' H' m' f'.toFr0 s' hw'.1 hget
      refine .inr ⟨hgo, fun σ2 H2 => ∃ as2 d2 m2, Fr as1 as2 H1 H2 ∧ SR (gOf X) as2 H2 m2 ∧ RelS (gOf X) as2 H2 σ2 d2 ∧ sForL still gt tb T ws d2 m2, fun σ2 H2 ⟨as2, d2, m2, g1, g2, g3, g4⟩ => ?_, fun x H2 hyl => ?_⟩
      · exact ⟨items.length - (i + 1), by omega, as2, d2, m2, g1, g2, g3, rfl, hlt, by rw [hdr]; exact g4⟩
      · obtain ⟨f2, s2, r2⟩ := hy x H2 hyl
        refine ⟨as', w, d', m', _, s2, r2, r'.fr f2, hw'.2, fun d3 m3 σ3 H3 as3 f3 s3 r3 h3 => ?_⟩
        refine ⟨as3, d3, m3, _, s3, r3, h3, ?_⟩
        have F3 : Fr as1 as3 H1 H3 := f'.trans (f2.trans f3)
        have F4 : Fr as as3 H H3 := f1.trans F3
        have nn : NLk (gOf X) as3 H3 (sForL still gt tb T ws) (fun σ2 H2 => ∃ as2 d2 m2, Fr as1 as2 H1 H2 ∧ SR (gOf X) as2 H2 m2 ∧ RelS (gOf X) as2 H2 σ2 d2 ∧ sForL still gt tb T ws d2 m2) :=
          fun d4 m4 σ4 H4 as4 f4 s4 r4 h4 => ⟨as4, d4, m4, F3.trans f4, s4, r4, h4⟩
        exact ⟨nn, (lk.fr F4).rt, (lk.fr F4).nx, nn, (lk.fr F4).ex⟩
end
end FW

namespace FW
open PySem PySem.Spec L2
def wipeW (d : List (Option W)) : List Nat → List (Option W)
  | [] => d
  | v :: vs => (wipeW d vs).set v none
theorem RelS.wipe {g : GE} {as : AS} {H : Hp} {σ : L2.St} {d : List (Option W)} (r : RelS g as H σ d) : ∀ vs : List Nat, RelS g as H (L2.wipe σ vs) (wipeW d vs)
  | [] => r
  | v :: vs => by
    have ih := RelS.wipe r vs
    refine ⟨by show ((L2.wipe σ vs).set v none).length = ((wipeW d vs).set v none).length; simp [ih.len], fun i w e => ?_⟩
    have e : ((wipeW d vs).set v none)[i]? = some (some w) := e
    show ∃ x, ((L2.wipe σ vs).set v none)[i]? = some (some x) ∧ _
    by_cases hi : v = i
    · subst hi
      by_cases hv : v < (wipeW d vs).length
      · rw [List.getElem?_set_self hv] at e; cases e
      · rw [List.getElem?_eq_none (by simpa using hv)] at e; cases e
    · rw [List.getElem?_set_ne hi] at e ⊢
      exact ih.ok i w e
def noZ : WZ := fun _ _ => False
def lcGo (still : Sto → Prop) (gt : WG) (tt : WT) (te : WE) (d0 : List (Option W)) (R : List W → Sto → Prop) : List W → List W → Sto → Prop
  | [], acc, m => still m ∧ R acc m
  | w :: ws, acc, m => still m ∧ gt w d0 m (fun d1 m1 => tt d1 m1 (fun b m2 => if b = true then te d1 m2 (fun y m3 => acc.length < sizeLine ∧ lcGo still gt tt te d0 R ws (acc ++ [y]) m3) noZ else lcGo still gt tt te d0 R ws acc m2) noZ)
/-- a target of a comprehension: a name, or names -/
inductive Tgt where
  | nm (i : Nat) | tp (is : List Nat)
def Tgt.wg : Tgt → WG
  | .nm i => gSet i
  | .tp is => gTupN is
def Tgt.slots : Tgt → List Nat
  | .nm i => [i]
  | .tp is => is
def wYes : WT := fun _ m R _ => R true m
def wLc (it : WI) (tg : Tgt) (tt : WT) (te : WE) : WE := fun d m R Z => it d m (fun items still m1 => lcGo still tg.wg tt te (wipeW d tg.slots) (fun acc m2 => R (.lst acc) m2) items [] m1) Z
/-- the list will change -/
def wLcM (it : WI) (tg : Tgt) (tt : WT) (te : WE) : WE := fun d m R Z => it d m (fun items still m1 => lcGo still tg.wg tt te (wipeW d tg.slots) (fun acc m2 => R (.ref m2.length) (m2 ++ [.lst acc])) items [] m1) Z
theorem wipe_set {σ : L2.St} {i : Nat} {v : Option V} : ∀ {vs : List Nat}, i ∈ vs → L2.wipe (σ.set i v) vs = L2.wipe σ vs
  | [], h => by cases h
  | j :: vs, h => by
    show (L2.wipe (σ.set i v) vs).set j none = (L2.wipe σ vs).set j none
    by_cases hj : i ∈ vs
    · rw [wipe_set hj]
    · have e : i = j := by
        rcases List.mem_cons.mp h with e | e
        · exact e
        · exact absurd e hj
      subst e
      have key : ∀ (us : List Nat) (s : L2.St), i ∉ us → L2.wipe (s.set i v) us = (L2.wipe s us).set i v := by
        intro us
        induction us with
        | nil => intro s _; rfl
        | cons k us ih =>
          intro s hk
          have h1 : i ≠ k := fun z => hk (by rw [z]; exact List.mem_cons_self)
          have h2 : i ∉ us := fun z => hk (List.mem_cons_of_mem _ z)
          show (L2.wipe (s.set i v) us).set k none = ((L2.wipe s us).set k none).set i v
          rw [ih s h2, List.set_comm _ _ h1]
      rw [key vs σ hj, List.set_set]
theorem wipe_wipe {σ : L2.St} (vs : List Nat) : L2.wipe (L2.wipe σ vs) vs = L2.wipe σ vs := by
  have key : ∀ us : List Nat, (∀ i ∈ us, i ∈ vs) → L2.wipe (L2.wipe σ us) vs = L2.wipe σ vs := by
    intro us
    induction us with
    | nil => intro _; rfl
    | cons k us ih =>
      intro h
      show L2.wipe ((L2.wipe σ us).set k none) vs = _
      rw [wipe_set (h k List.mem_cons_self), ih fun i hi => h i (List.mem_cons_of_mem _ hi)]
  exact key vs fun _ h => h
section
variable {X : Cx} {E : XK} {pos : Pos} {tg : Expr}
/-- hide a new list -/
theorem SR.hide {g : GE} {as : AS} {H : Hp} {m : Sto} {D : Addr} {u : HO} (s : SR g as H m) (hD : H D = none) (pu : plO u = true := by rfl) :
    Fr0 as ⟨as.l, D :: as.h⟩ H (upd H D u) ∧ SR g ⟨as.l, D :: as.h⟩ (upd H D u) m := by
  have f : Fr0 as ⟨as.l, D :: as.h⟩ H (upd H D u) := ⟨fun _ _ h => h, fun b o _ _ q => by rw [upd_ne (ne_of_none q hD)]; exact q, fun b hb => by
    rcases hb with q | q
    · exact .inl (AS.mem_l q)
    · rcases List.mem_cons.mp q with q | q
      · rw [q]; exact .inr (.inl hD)
      · exact .inl (AS.mem_h q)⟩
  refine ⟨f, s.len, s.nd, fun n a o e1 e2 => (s.ok n a o e1 e2).fr f fun w q => by rw [upd_ne (ne_of_none q hD)]; exact q, fun b hb => ?_, tabs_upd s.tabs (fun o z => by rw [hD] at z; cases z)⟩
  rcases List.mem_cons.mp hb with q | q
  · subst q
    exact ⟨fun z => s.out hD (AS.mem_l z), u, upd_same, pu⟩
  · obtain ⟨h1, w, h2, pw⟩ := s.hok b q
    exact ⟨h1, w, by rw [upd_ne (ne_of_none h2 hD)]; exact h2, pw⟩
/-- less is hidden -/
theorem SR.less {g : GE} {as : AS} {H : Hp} {m : Sto} {h2 : List Addr} (s : SR g as H m) (hs : ∀ b ∈ h2, b ∈ as.h) : Fr0 as ⟨as.l, h2⟩ H H ∧ SR g ⟨as.l, h2⟩ H m := by
  have f : Fr0 as ⟨as.l, h2⟩ H H := ⟨fun _ _ h => h, fun _ _ _ _ q => q, fun b hb => by
    rcases hb with q | q
    · exact .inl (AS.mem_l q)
    · exact .inl (AS.mem_h (hs b q))⟩
  exact ⟨f, s.len, s.nd, fun n a o e1 e2 => (s.ok n a o e1 e2).fr f fun _ q => q, fun b hb => s.hok b (hs b hb), s.tabs⟩
/-- the hidden one changes -/
theorem SR.hid {g : GE} {as : AS} {H : Hp} {m : Sto} {D : Addr} {u : HO} (s : SR g as H m) (hD : D ∈ as.h) (pu : plO u = true := by rfl) : Fr0 as as H (upd H D u) ∧ SR g as (upd H D u) m := by
  have f : Fr0 as as H (upd H D u) := ⟨fun _ _ h => h, fun b o hb _ q => by rw [upd_ne (show b ≠ D from fun z => hb (by rw [z]; exact AS.mem_h hD))]; exact q, fun b hb => .inl hb⟩
  have nl := (s.hok D hD).1
  refine ⟨f, s.len, s.nd, fun n a o e1 e2 => (s.ok n a o e1 e2).fr f fun w q => ?_, fun b hb => ⟨(s.hok b hb).1, ?_⟩, tabs_upd s.tabs (fun o z => by obtain ⟨_, w, q, pw⟩ := s.hok D hD; rw [q] at z; cases z; exact pw)⟩
  · rw [upd_ne (show a ≠ D from fun z => nl (by rw [← z]; exact List.mem_of_getElem? e1))]; exact q
  · by_cases e : b = D
    · subst e; exact ⟨u, upd_same, pu⟩
    · obtain ⟨w, q, pw⟩ := (s.hok b hb).2
      exact ⟨w, by rw [upd_ne e]; exact q, pw⟩
/-- the comprehension's turns -/
theorem lc_turns {g : GE} {items : List W} {still : Sto → Prop} {J : It} {as1 : AS} {H1 : Hp} {m1 : Sto} {T : Tgt} {tt : WT} {te : WE} {σ : L2.St} {d : List (Option W)} {R : List W → Sto → Prop} {Qd : Addr → Hp → Prop} {gl : TG} {tl : TT} {el : TE} {D : Addr}
    (s1 : SR g as1 H1 m1) (rs : RelS g as1 H1 σ d) (itr : ItR g J as1 H1 items still) (hD : H1 D = none) (hw : lcGo still T.wg tt te (wipeW d T.slots) R items [] m1)
    (hg : ∀ as w v H m P (Q : L2.St → Hp → Prop), SR g as H m → RelW g as H w v → RelS g as H (L2.wipe σ T.slots) (wipeW d T.slots) → T.wg w (wipeW d T.slots) m P → (∀ d2 σ2, RelS g as H σ2 d2 → L2.wipe σ2 T.slots = L2.wipe σ T.slots → P d2 m → Q σ2 H) → gl v (L2.wipe σ T.slots) H Q)
    (ht : tl = tMT g E0 tt) (he : el = tM g E0 te)
    (fin : ∀ acc vacc m2 H2 as2, Fr as1 ⟨as2.l, as1.h⟩ H1 H2 → as2.h = D :: as1.h → SR g as2 H2 m2 → H2 D = some (.lst vacc) → RelWs g as2 H2 acc vacc → R acc m2 → Qd D H2) :
    ∃ Wv : Nat → Nat → Hp → Prop, (∃ m, Wv 0 m (upd H1 D (.lst []))) ∧ ∀ i m H, Wv i m H →
      (J.stop i H ∧ Qd D H) ∨ (J.go i H ∧ ∃ Nx : Hp → Prop, (∀ H', Nx H' → ∃ m', m' < m ∧ Wv (i + 1) m' H') ∧ ∀ x H', J.yld i H x H' → gl x (L2.wipe σ T.slots) H' fun σ2 H2 => L2.wipe σ2 T.slots = L2.wipe σ T.slots ∧ tl σ2 H2 fun b H3 =>
        if b = true then el σ2 H3 fun y H4 => ∃ acc, H4 D = some (.lst acc) ∧ acc.length < sizeLine ∧ Nx (upd H4 D (.lst (acc ++ [y]))) else Nx H3) := by
  subst ht he
  let Inv := fun (i : Nat) (H : Hp) => ∃ as m acc vacc, Fr0 as1 as H1 H ∧ as.h = D :: as1.h ∧ (∀ b o, b ∈ as1.h → H1 b = some o → H b = some o) ∧ SR g as H m ∧ H D = some (.lst vacc) ∧ RelWs g as H acc vacc ∧ RelS g as H (L2.wipe σ T.slots) (wipeW d T.slots) ∧ i ≤ items.length ∧ lcGo still T.wg tt te (wipeW d T.slots) R (items.drop i) acc m
  refine ⟨fun i k H => k = items.length - i ∧ Inv i H, ⟨items.length, rfl, ?_⟩, fun i k H ⟨ek, as, m, acc, vacc, f, eh, hk, sr, eD, ra, rS, hi, hgo⟩ => ?_⟩
  · obtain ⟨f0, s0⟩ := s1.hide (u := .lst []) hD
    exact ⟨⟨as1.l, D :: as1.h⟩, m1, [], [], f0, rfl, fun b o hb q => by rw [upd_ne (ne_of_none q hD)]; exact q, s0, upd_same, .nil, (rs.wipe _).fr0 f0, Nat.zero_le _, hw⟩
  · cases e : items.drop i with
    | nil =>
      rw [e] at hgo
      have hl : i = items.length := by
        have := List.drop_eq_nil_iff.mp e
        omega
      subst hl
      refine .inl ⟨itr.stop as H m f sr hgo.1, fin acc vacc m H as ⟨⟨f.ext, f.keep, fun b hb => ?_⟩, rfl, hk⟩ eh sr eD ra hgo.2⟩
      rcases hb with q | q
      · exact f.fresh b (AS.mem_l q)
      · exact .inl (AS.mem_h q)
    | cons w ws =>
      rw [e] at hgo
      have hlt : i < items.length := by
        apply Nat.lt_of_not_le
        intro z
        rw [List.drop_eq_nil_iff.mpr z] at e; cases e
      have hget : items[i]? = some w := by
        have := List.getElem?_drop (xs := items) (i := i) (j := 0)
        rw [e] at this
        simpa using this.symm
      have hdr : items.drop (i + 1) = ws := by
        have : items.drop (i + 1) = (items.drop i).drop 1 := by rw [List.drop_drop]
        rw [this, e]; rfl
      obtain ⟨hgo1, hy⟩ := itr.go i w as H m f sr hgo.1 hget
      refine .inr ⟨hgo1, fun H' => Inv (i + 1) H', fun H' hN => ⟨items.length - (i + 1), by omega, rfl, hN⟩, fun x H2 hyl => ?_⟩
      obtain ⟨f2, s2, r2⟩ := hy x H2 hyl
      have hDm : D ∈ as.h := by rw [eh]; exact List.mem_cons_self
      refine hg as w x H2 m _ _ s2 r2 (rS.fr f2) hgo.2 fun d3 σ3 r3 ew h3 => ⟨ew, ?_⟩
      -- the test
      refine ⟨as, d3, m, _, noZ, s2, r3, h3, fun b m3 b' H3 as3 f3 s3 eb h4 => ?_, XLk.no⟩
      subst eb
      have F23 : Fr as as3 H H3 := f2.trans f3
      have next : ∀ (as5 : AS) (H5 : Hp) (m5 : Sto) (acc5 : List W) (v5 : List V), Fr as as5 H H5 → SR g as5 H5 m5 → RelWs g as5 H5 acc5 v5 → lcGo still T.wg tt te (wipeW d T.slots) R ws acc5 m5 → Inv (i + 1) (upd H5 D (.lst v5)) := fun as5 H5 m5 acc5 v5 F5 S5 R5 G5 => by
        have hD5 : D ∈ as5.h := by rw [F5.hid]; exact hDm
        obtain ⟨f6, s6⟩ := S5.hid (u := .lst v5) hD5
        refine ⟨as5, m5, acc5, v5, f.trans (F5.toFr0.trans f6), F5.hid.trans eh, fun b o hb q => ?_, s6, upd_same, R5.fr0 f6, (rS.fr F5).fr0 f6, hlt, by rw [hdr]; exact G5⟩
        have hbD : b ≠ D := fun z => by rw [z] at q; rw [hD] at q; cases q
        rw [upd_ne hbD]
        exact F5.hkeep b o (by rw [eh]; exact List.mem_cons_of_mem _ hb) (hk b o hb q)
      cases b with
      | false =>
        refine iteF ?_
        have eD3 : H3 D = some (.lst vacc) := F23.hkeep D _ hDm eD
        have := next as3 H3 m3 acc vacc F23 s3 (ra.fr F23) (by simpa using h4)
        have eu : upd H3 D (.lst vacc) = H3 := by
          funext b
          unfold upd
          split
          · rename_i z; rw [z]; exact eD3.symm
          · rfl
        rw [eu] at this
        exact this
      | true =>
        refine iteT ?_
        refine ⟨as3, d3, m3, _, noZ, s3, r3.fr f3, by simpa using h4, fun y m4 v4 H4 as4 f4 s4 r4 h5 => ?_, XLk.no⟩
        have F24 : Fr as as4 H H4 := F23.trans f4
        refine ⟨vacc, F24.hkeep D _ hDm eD, ?_, next as4 H4 m4 (acc ++ [y]) (vacc ++ [v4]) F24 s4 ((ra.fr F24).append (.cons r4 .nil)) h5.2⟩
        rw [← ra.length]
        exact h5.1
/-- a target, one level below -/
def Tgt.tgl (K : PySem.W.Frag) : Tgt → TG
  | .nm i => gName i
  | .tp is => gTup K is.length (tgsN is)
/-- the block's pieces -/
structure LcOk (X : Cx) (scope : Scope) (own : List (Str × Nat)) (tg elt : Expr) (ifs : List Expr) (T : Tgt) (tt : WT) (te : WE) : Prop where
  ok : BlkOk X.N X.env.scope scope own
  sl : own.map (·.2) = T.slots
  tgt : ∀ (s : Shared) (H : Hp) (C : Addr) (cl : List (Str × Addr)) (fp : List Addr), PG (X.blk s H scope (compEnvC scope cl C X.env) fp) tg (T.tgl X.K)
  tests : ∀ (s : Shared) (H : Hp) (C : Addr) (cl : List (Str × Addr)) (fp : List Addr), PTs (X.blk s H scope (compEnvC scope cl C X.env) fp) ifs (tMT (gOf X) E0 tt)
  elt : ∀ (s : Shared) (H : Hp) (C : Addr) (cl : List (Str × Addr)) (fp : List Addr), PE (X.blk s H scope (compEnvC scope cl C X.env) fp) elt (tM (gOf X) E0 te)
theorem tgt_run {g : GE} {T : Tgt} {σ : L2.St} {d : List (Option W)} : ∀ as w v H m P (Q : L2.St → Hp → Prop), SR g as H m → RelW g as H w v → RelS g as H (L2.wipe σ T.slots) (wipeW d T.slots) → T.wg w (wipeW d T.slots) m P → (∀ d2 σ2, RelS g as H σ2 d2 → L2.wipe σ2 T.slots = L2.wipe σ T.slots → P d2 m → Q σ2 H) → T.tgl g.K v (L2.wipe σ T.slots) H Q := by
  intro as w v H m P Q sr r rs h k
  cases T with
  | nm i =>
    refine k _ _ (rs.set r i) ?_ h
    show L2.wipe ((L2.wipe σ [i]).set i (some v)) [i] = L2.wipe σ [i]
    rw [wipe_set List.mem_cons_self, wipe_wipe]
  | tp is =>
    have h : gTupN is w (wipeW d is) m P := h
    unfold gTupN at h
    split at h
    · rename_i ws
      obtain ⟨a, vs, rfl, h2, h0, h3⟩ := relT r
      refine ⟨a, vs, rfl, .inl h2, by rw [← h3.length]; exact h.1, tgsN_run h.1 h3 rs fun σ2 r2 hw => k _ _ r2 ?_ h.2⟩
      show L2.wipe σ2 is = L2.wipe σ is
      rw [hw is (fun _ h => h) (fun i v s hi => wipe_set hi)]
      exact wipe_wipe is
    · rename_i ws
      cases r with
      | tpu h0 h2 h3 =>
        refine ⟨_, _, rfl, .inl (.inl h2), by rw [← h3.length]; exact h.1, tgsN_run h.1 h3 rs fun σ2 r2 hw => k _ _ r2 ?_ h.2⟩
        show L2.wipe σ2 is = L2.wipe σ is
        rw [hw is (fun _ h => h) (fun i v s hi => wipe_set hi)]
        exact wipe_wipe is
    · exact h.elim
theorem tLc_of {iter : Expr} {it : WI} {T : Tgt} {tt : WT} {te : WE} {σ : L2.St} {H : Hp} {Q : VK} (h : tM (gOf X) E (wLc it T tt te) σ H Q) :
    tLc (tMI (gOf X) E it) (T.tgl X.K) (tMT (gOf X) E0 tt) (tM (gOf X) E0 te) T.slots σ H Q := by
  obtain ⟨as, d, m, R, Z, sr, rs, h, ok, ex⟩ := h
  refine ⟨as, d, m, _, Z, sr, rs, h, fun items still m1 J H1 as1 f1 s1 itr hw D hD => ?_, ex⟩
  refine lc_turns (Qd := fun D H => Q (.ref D) H) (R := fun acc m2 => R (.lst acc) m2) s1 (rs.fr f1) itr hD hw tgt_run rfl rfl fun acc vacc m2 H2 as2 F eh S eD ra q => ?_
  obtain ⟨g0, g1⟩ := S.less (h2 := as1.h) (fun b hb => by rw [eh]; exact List.mem_cons_of_mem _ hb)
  have hDm : D ∈ as2.h := by rw [eh]; exact List.mem_cons_self
  refine ok _ m2 _ H2 _ (f1.trans F) g1 (.lst (fun z => ?_) eD (ra.fr0 g0)) q
  rcases z with z | z
  · exact (S.hok D hDm).1 z
  · exact s1.out hD (AS.mem_h z)
theorem tLcM_of {iter : Expr} {it : WI} {T : Tgt} {tt : WT} {te : WE} {σ : L2.St} {H : Hp} {Q : VK} (h : tM (gOf X) E (wLcM it T tt te) σ H Q) :
    tLc (tMI (gOf X) E it) (T.tgl X.K) (tMT (gOf X) E0 tt) (tM (gOf X) E0 te) T.slots σ H Q := by
  obtain ⟨as, d, m, R, Z, sr, rs, h, ok, ex⟩ := h
  refine ⟨as, d, m, _, Z, sr, rs, h, fun items still m1 J H1 as1 f1 s1 itr hw D hD => ?_, ex⟩
  refine lc_turns (Qd := fun D H => Q (.ref D) H) (R := fun acc m2 => R (.ref m2.length) (m2 ++ [.lst acc])) s1 (rs.fr f1) itr hD hw tgt_run rfl rfl fun acc vacc m2 H2 as2 F eh S eD ra q => ?_
  have hDm : D ∈ as2.h := by rw [eh]; exact List.mem_cons_self
  have hDl := (S.hok D hDm).1
  have hD1 : D ∉ as1 := s1.out hD
  -- the list is one of the changing objects now
  have g0 : Fr0 as2 ⟨as2.l ++ [D], as1.h⟩ H2 H2 := ⟨fun n a e => by
      show (as2.l ++ [D])[n]? = some a
      rw [List.getElem?_append_left (List.getElem?_eq_some_iff.mp e).1]; exact e, fun _ _ _ _ q => q, fun b hb => by
    rcases hb with z | z
    · rcases List.mem_append.mp (show b ∈ as2.l ++ [D] from z) with z | z
      · exact .inl (AS.mem_l z)
      · rw [List.mem_singleton.mp z]; exact .inl (AS.mem_h hDm)
    · exact .inl (AS.mem_h (by rw [eh]; exact List.mem_cons_of_mem _ z))⟩
  have last : (as2.l ++ [D])[m2.length]? = some D := by rw [← S.len]; simp
  have g1 : SR (gOf X) ⟨as2.l ++ [D], as1.h⟩ H2 (m2 ++ [.lst acc]) := by
    refine ⟨by show (as2.l ++ [D]).length = _; simp [S.len], ?_, fun k b v e1 e2 => ?_, fun b hb => ?_, S.tabs⟩
    · show (as2.l ++ [D]).Nodup
      rw [List.nodup_append]
      exact ⟨S.nd, by simp, fun a ha b hb z => by rw [List.mem_singleton.mp hb] at z; exact hDl (z ▸ ha)⟩
    · have e1 : (as2.l ++ [D])[k]? = some b := e1
      by_cases hk : k < as2.l.length
      · rw [List.getElem?_append_left hk] at e1
        rw [List.getElem?_append_left (by rw [← S.len]; exact hk)] at e2
        exact (S.ok k b v e1 e2).fr g0 fun _ q => q
      · have hk2 : k = as2.l.length := by
          have := (List.getElem?_eq_some_iff.mp e1).1
          simp at this
          omega
        subst hk2
        rw [S.len] at e1 e2
        rw [last] at e1; cases e1
        simp at e2
        subst e2
        exact ⟨vacc, eD, ra.fr0 g0⟩
    · have hb2 : b ∈ as2.h := by rw [eh]; exact List.mem_cons_of_mem _ hb
      refine ⟨fun z => ?_, (S.hok b hb2).2⟩
      rcases List.mem_append.mp (show b ∈ as2.l ++ [D] from z) with z | z
      · exact (S.hok b hb2).1 z
      · rw [List.mem_singleton.mp z] at hb; exact hD1 (AS.mem_h hb)
  have F2 : Fr as1 ⟨as2.l ++ [D], as1.h⟩ H1 H2 := ⟨⟨fun n a e => g0.ext n a (F.ext n a e), F.keep, fun b hb => by
    rcases hb with z | z
    · rcases List.mem_append.mp (show b ∈ as2.l ++ [D] from z) with z | z
      · exact F.fresh b (AS.mem_l z)
      · rw [List.mem_singleton.mp z]; exact .inr (.inl hD)
    · exact .inl (AS.mem_h z)⟩, rfl, F.hkeep⟩
  exact ok _ _ _ H2 _ (f1.trans F2) g1 (.ref last) q
theorem w_lc {iter elt : Expr} {ifs : List Expr} {scope : Scope} {own : List (Str × Nat)} {it : WI} {T : Tgt} {tt : WT} {te : WE} (hc : X.calm = true) (hN : X.N.Nodup) (hi : PI X tg iter (tMI (gOf X) E it)) (L : LcOk X scope own tg elt ifs T tt te)
    (hs : ∀ x, foldedSetIterable iter X.env x = pure x) : PE X (.ListComp elt [⟨tg, iter, ifs, 0⟩] scope pos) (tM (gOf X) E (wLc it T tt te)) :=
  PE_mono (pe_lc hc hN hi L.ok L.tgt L.tests L.elt hs) fun σ H Q h => by rw [L.sl]; exact tLc_of (iter := iter) h
theorem w_lcM {iter elt : Expr} {ifs : List Expr} {scope : Scope} {own : List (Str × Nat)} {it : WI} {T : Tgt} {tt : WT} {te : WE} (hc : X.calm = true) (hN : X.N.Nodup) (hi : PI X tg iter (tMI (gOf X) E it)) (L : LcOk X scope own tg elt ifs T tt te)
    (hs : ∀ x, foldedSetIterable iter X.env x = pure x) : PE X (.ListComp elt [⟨tg, iter, ifs, 0⟩] scope pos) (tM (gOf X) E (wLcM it T tt te)) :=
  PE_mono (pe_lc hc hN hi L.ok L.tgt L.tests L.elt hs) fun σ H Q h => by rw [L.sl]; exact tLcM_of (iter := iter) h
/-- name = [..] -/
theorem s_setLc {i : Nat} {y : Str} {py spos : Pos} {iter elt : Expr} {ifs : List Expr} {scope : Scope} {own : List (Str × Nat)} {it : WI} {T : Tgt} {tt : WT} {te we : WE} (hc : X.calm = true) (hN : X.N.Nodup) (hy : X.N[i]? = some y) (hyl : X.env.scope.names.lookup y = some .local)
    (hsw : swapsWith (.ListComp elt [⟨tg, iter, ifs, 0⟩] scope pos) (some (.Name y py)) spos.line X.env = pure true) (hi : PI X tg iter (tMI (gOf X) E it)) (L : LcOk X scope own tg elt ifs T tt te) (hs : ∀ x, foldedSetIterable iter X.env x = pure x)
    (hwe : ∀ σ H Q, tM (gOf X) E we σ H Q → tLc (tMI (gOf X) E it) (T.tgl X.K) (tMT (gOf X) E0 tt) (tM (gOf X) E0 te) T.slots σ H Q) :
    PS X (.Assign [.Name y py] (.ListComp elt [⟨tg, iter, ifs, 0⟩] scope pos) spos) (tMS (gOf X) E (sAsg we (gSet i))) :=
  PS_mono (ps_setLc hc hN hy hyl hsw hi L.ok L.tgt L.tests L.elt hs) fun D σ H ⟨as, d, m, T', sr, rs, h, lk⟩ => by
    rw [L.sl]
    exact hwe _ _ _ ⟨as, d, m, _, T'.ex, sr, rs, h, fun w m1 v H1 as1 f1 s1 r1 h1 => lk.nx _ m1 _ H1 as1 f1 s1 ((rs.fr f1).set r1 i) h1, lk.ex⟩
theorem w_tests0 {g : GE} : ∀ {X : Cx}, PTs X [] (tMT (gOf X) E wYes) := fun {X} => ⟨fun pins s σ H Q I ⟨as, d, m, R, Z, sr, rs, h, ok, ex⟩ => pts_nil.run pins s σ H Q I (ok _ m true H as (Fr.refl _ _) sr rfl h)⟩
theorem w_tests1 {c : Expr} {tt : WT} (h : PT X c (tMT (gOf X) E tt)) : PTs X [c] (tMT (gOf X) E tt) := pts_one h
/-- n turns at most -/
def whGo (c : WT) (body : WS) (T : EW) : Nat → List (Option W) → Sto → Prop
  | 0, _, _ => False
  | n + 1, d, m => c d m (fun b m1 => if b = true then body { T with nx := whGo c body T n, ct := whGo c body T n, bk := T.nx } d m1 else T.nx d m1) T.ex
def sWhile (c : WT) (body : WS) : WS := fun T d m => ∃ n, whGo c body T n d m
theorem s_while {c : Expr} {body : List Stmt} {tc : WT} {tb : WS} (hp : PassesOwn (model X.prog X.w) X.A X.env X.xe) (hc : PT X c (tMT (gOf X) E tc)) (hb : PSs X body (tMS (gOf X) E tb)) : PS X (.While c body [] pos) (tMS (gOf X) E (sWhile tc tb)) :=
  PS_mono (ps_while hp hc hb) fun D σ H ⟨as, d, m, T, sr, rs, ⟨n, h⟩, lk⟩ => by
    refine ⟨fun k σ' H' => ∃ as' d' m', Fr as as' H H' ∧ SR (gOf X) as' H' m' ∧ RelS (gOf X) as' H' σ' d' ∧ whGo tc tb T k d' m', ⟨n, as, d, m, Fr.refl _ _, sr, rs, h⟩, fun k σ' H' ⟨as', d', m', f', s', r', hw⟩ => ?_⟩
    cases k with
    | zero => exact hw.elim
    | succ k =>
      refine ⟨as', d', m', _, T.ex, s', r', hw, fun b m1 b' H1 as1 f1 s1 eb h1 => ?_, lk.ex.fr f'⟩
      subst eb
      cases b with
      | false => exact iteF (lk.nx d' m1 σ' H1 as1 (f'.trans f1) s1 (r'.fr f1) (by simpa using h1))
      | true =>
        refine iteT ⟨fun σ2 H2 => ∃ as2 d2 m2, Fr as as2 H H2 ∧ SR (gOf X) as2 H2 m2 ∧ RelS (gOf X) as2 H2 σ2 d2 ∧ whGo tc tb T k d2 m2, fun σ2 H2 hN => ⟨k, Nat.lt_succ_self k, hN⟩, ?_⟩
        refine ⟨as1, d', m1, _, s1, r'.fr f1, by simpa using h1, ?_⟩
        have F1 : Fr as as1 H H1 := f'.trans f1
        have nn : NLk (gOf X) as1 H1 (whGo tc tb T k) (fun σ2 H2 => ∃ as2 d2 m2, Fr as as2 H H2 ∧ SR (gOf X) as2 H2 m2 ∧ RelS (gOf X) as2 H2 σ2 d2 ∧ whGo tc tb T k d2 m2) :=
          fun d4 m4 σ4 H4 as4 f4 s4 r4 h4 => ⟨as4, d4, m4, F1.trans f4, s4, r4, h4⟩
        exact ⟨nn, (lk.fr F1).rt, (lk.fr F1).nx, nn, (lk.fr F1).ex⟩
end
end FW

namespace FW
open PySem PySem.Spec L2
abbrev WM := W → List W → Sto → WR → Prop
def rWM (g : GE) (f : WM) : V → List V → Hp → VK → Prop := fun x xs H Q => ∃ as wx ws m R, SR g as H m ∧ RelW g as H wx x ∧ RelWs g as H ws xs ∧ f wx ws m R ∧
  ∀ w m' v H' as', Fr as as' H H' → SR g as' H' m' → RelW g as' H' w v → R w m' → Q v H'
/-- a method of a built-in type T: what the receiver must be -/
def tyIs (T : String) (m : Sto) (w : W) : Prop := match w with
  | .str _ => T = "str"
  | .dct _ => False
  | w => T = "list" ∧ (lstOf m w).isSome = true
def wBM (T : String) (f : WM) (o : WE) (t : WA) : WE := fun d m R Z => o d m (fun x m1 => tyIs T m1 x ∧ t d m1 (fun ws m2 => f x ws m2 R) Z) Z
section
variable {X : Cx} {E : XK} {pos : Pos}
theorem tyIs_rel {g : GE} {as : AS} {H : Hp} {m : Sto} {w : W} {v : V} {T : String} (s : SR g as H m) (r : RelW g as H w v) (h : tyIs T m w) : tyV g.K T v H := by
  have ls : T = "list" ∧ (lstOf m w).isSome = true → tyV g.K T v H := fun ⟨h1, h2⟩ => by
    obtain ⟨l, e⟩ := Option.isSome_iff_exists.mp h2
    obtain ⟨a, vs, rfl, k2, k3⟩ := relL s r e
    exact .inl ⟨h1, vs, k2⟩
  cases w with
  | str z => cases r; exact h
  | dct _ => exact h.elim
  | non => exact ls h
  | bl _ => exact ls h
  | int _ => exact ls h
  | tup _ => exact ls h
  | tpu _ => exact ls h
  | lst _ => exact ls h
  | fzl _ => exact ls h
  | ref _ => exact ls h
  | fnv _ _ _ _ _ => exact ls h
  | exv _ _ => exact ls h
theorem backTo_all {es : List Expr} {env : Env} (h : es.all notStar = true) : (backTo pos (starEach es env)).all (fun x => !x.1) = true := by
  induction es with
  | nil => rfl
  | cons e r ih =>
    rw [List.all_cons, Bool.and_eq_true] at h
    rw [starEach_plain h.1]
    have := ih h.2
    unfold backTo at this ⊢
    rw [List.map_cons, List.all_cons, this]
    rfl
theorem w_bm {T : String} {name : Str} {id : String} {f : WM} {o e : Expr} {es : List Expr} {to : WE} {t : WA} {apos : Pos} (pa : PlainAttrs T) (slot : Slot T name id) (hty : typeOf (.builtin id) = pure (.type "method_descriptor")) (hm : MtR X id (rWM (gOf X) f))
    (ho : PE X o (tM (gOf X) E to)) (ha : PA X (e :: es) (tMA (gOf X) E t)) (hbase : attributeBase o name X.env (eval o X.env) = eval o X.env) (hn : (e :: es).all notStar = true) (h30 : decide ((e :: es).length + 0 + 0 < 30) = true) (hline : (apos.endLine == pos.line) = true) :
    PE X (.Call (.Attribute o name apos) (e :: es) [] pos) (tM (gOf X) E (wBM T f to t)) := by
  have hn1 := hn
  rw [List.all_cons, Bool.and_eq_true] at hn1
  refine PE_mono (pe_bm pa slot hty hm ho ha hbase (by rw [backTo_all hn]; exact h30) hline (starEach_plain hn1.1) (starEach_any hn1.2)) fun σ H Q ⟨as, d, m, R, Z, sr, rs, h, ok, ex⟩ => ?_
  refine ⟨as, d, m, _, Z, sr, rs, h, fun w m1 v H1 as1 f1 s1 r1 h1 => ⟨tyIs_rel s1 r1 h1.1, ?_⟩, ex⟩
  exact ⟨as1, d, m1, _, Z, s1, rs.fr f1, h1.2, fun ws m2 vs H2 as2 f2 s2 r2 h2 => ⟨as2, w, ws, m2, R, s2, r1.fr f2, r2, h2, fun w3 m3 v3 H3 as3 f3 s3 r3 h3 => ok w3 m3 v3 H3 as3 (f1.trans (f2.trans f3)) s3 r3 h3⟩, ex.fr f1⟩
theorem w_bm0 {T : String} {name : Str} {id : String} {f : WM} {o : Expr} {to : WE} {apos : Pos} (pa : PlainAttrs T) (slot : Slot T name id) (hty : typeOf (.builtin id) = pure (.type "method_descriptor")) (hm : MtR X id (rWM (gOf X) f))
    (ho : PE X o (tM (gOf X) E to)) (hbase : attributeBase o name X.env (eval o X.env) = eval o X.env) (hline : (apos.endLine == pos.line) = true) :
    PE X (.Call (.Attribute o name apos) [] [] pos) (tM (gOf X) E (wBM T f to wNil)) :=
  PE_mono (pe_bm0 pa slot hty hm ho hbase hline) fun σ H Q ⟨as, d, m, R, Z, sr, rs, h, ok, ex⟩ =>
    ⟨as, d, m, _, Z, sr, rs, h, fun w m1 v H1 as1 f1 s1 r1 h1 => ⟨tyIs_rel s1 r1 h1.1, as1, w, [], m1, R, s1, r1, .nil, h1.2, fun w3 m3 v3 H3 as3 f3 s3 r3 h3 => ok w3 m3 v3 H3 as3 (f1.trans f3) s3 r3 h3⟩, ex⟩
/-- a list of the store becomes another -/
theorem put_lst {g : GE} {as : AS} {H : Hp} {m : Sto} {R : WR} {Q : VK} {n : Nat} {a : Addr} {l : List W} {vs : List V} {w : W} {v : V} (sr : SR g as H m) (ea : as.l[n]? = some a) (r : RelWs g as H l vs) (rw' : RelW g as H w v)
    (ok : ∀ w m' v H' as', Fr as as' H H' → SR g as' H' m' → RelW g as' H' w v → R w m' → Q v H') (q : R w (m.set n (.lst l))) : Q v (upd H a (.lst vs)) := by
  have f := sr.putFr (u := .lst vs) ea
  obtain ⟨_, s2⟩ := sr.put (o := .lst l) (u := .lst vs) ea ⟨vs, upd_same, r.fr f⟩
  exact ok _ _ _ _ as f s2 (rw'.fr f) q
def mAppend : WM := fun x ws m R => match x, ws with
  | .ref n, [y] => (match m[n]? with
    | some (.lst l) => l.length < sizeLine ∧ R .non (m.set n (.lst (l ++ [y])))
    | _ => False)
  | _, _ => False
theorem mw_append : MtR X "list.append" (rWM (gOf X) mAppend) := by
  intro pins s σ H x xs v us Q I rx rv ⟨as, wx, ws, m, R, sr, r1, r2, q, ok⟩
  unfold mAppend at q
  split at q
  · rename_i n y
    split at q
    · rename_i l e
      obtain ⟨a, rfl, ea, vs, hH, rl⟩ := relRef sr r1 e
      obtain ⟨vy, rfl, ry⟩ := r2.one
      exact mt_append pins s σ H _ _ v us Q I rx rv ⟨a, vs, vy, rfl, rfl, hH, by rw [← rl.length]; exact q.1, put_lst sr ea (rl.append (.cons ry .nil)) .non ok q.2⟩
    · exact q.elim
  · exact q.elim
theorem RelWs.dropLast {g : GE} {as : AS} {H : Hp} {ws : List W} {vs : List V} (r : RelWs g as H ws vs) : RelWs g as H ws.dropLast vs.dropLast := by
  rw [List.dropLast_eq_take, List.dropLast_eq_take, r.length]
  exact r.take _
def mInsert : WM := fun x ws m R => match x, ws with
  | .ref n, [.int i, y] => (match m[n]? with
    | some (.lst l) => l.length < sizeLine ∧ 0 ≤ i ∧ i < 2 ^ 63 ∧ R .non (m.set n (.lst (l.take i.toNat ++ [y] ++ l.drop i.toNat)))
    | _ => False)
  | _, _ => False
theorem mw_insert : MtR X "list.insert" (rWM (gOf X) mInsert) := by
  intro pins s σ H x vs v us Q I rx rv h
  obtain ⟨as, wx, ws, m, R, sr, r1, r2, h, ok⟩ := h
  unfold mInsert at h
  split at h
  · rename_i n i y
    cases e : m[n]? with
    | none => rw [e] at h; exact h.elim
    | some o =>
      rw [e] at h
      cases o with
      | lst l =>
        obtain ⟨h1, h2, h3, h4⟩ := h
        obtain ⟨a, rfl, ea, xs, hx, rx'⟩ := relRef sr r1 e
        obtain ⟨v1, v2, rfl, q1, q2⟩ := r2.two
        rw [relInt q1] at rv
        refine mt_insert pins s σ H _ _ v us Q I rx rv ⟨a, xs, i, v2, rfl, rfl, hx, by rw [← rx'.length]; exact h1, h2, h3, ?_⟩
        exact put_lst sr ea (((rx'.take _).append (.cons q2 .nil)).append (rx'.drop _)) .non ok h4
      | _ => exact h.elim
  · exact h.elim
def mPop : WM := fun x ws m R => match x, ws with
  | .ref n, [] => (match m[n]? with
    | some (.lst l) => (match l[l.length - 1]? with
      | some y => R y (m.set n (.lst l.dropLast))
      | none => False)
    | _ => False)
  | _, _ => False
theorem mw_pop : MtR X "list.pop" (rWM (gOf X) mPop) := by
  intro pins s σ H x xs v us Q I rx rv ⟨as, wx, ws, m, R, sr, r1, r2, q, ok⟩
  unfold mPop at q
  split at q
  · rename_i n
    split at q
    · rename_i l e
      split at q
      · rename_i y ey
        obtain ⟨a, rfl, ea, vs, hH, rl⟩ := relRef sr r1 e
        cases r2
        rw [rl.length] at ey
        obtain ⟨vy, e2, ry⟩ := rl.get ey
        exact mt_pop pins s σ H _ _ v us Q I rx rv ⟨a, vs, vy, rfl, rfl, hH, e2, put_lst sr ea rl.dropLast ry ok q⟩
      · exact q.elim
    · exact q.elim
  · exact q.elim
/-- in its place, or at the end -/
def putD {κ : Type} [DecidableEq κ] (kws : List (κ × W)) (k : κ) (w : W) : List (κ × W) :=
  if (kws.any fun kv => decide (kv.1 = k)) = true then kws.map (fun kv => if kv.1 = k then (kv.1, w) else kv) else kws ++ [(k, w)]
theorem RelKs.any {g : GE} {as : AS} {H : Hp} {k : Key} : ∀ {ws : List (Key × W)} {vs : List (Key × V)}, RelKs g as H ws vs → (ws.any fun kv => decide (kv.1 = k)) = vs.any fun kv => decide (kv.1 = k)
  | _, _, .nil => rfl
  | _, _, .cons _ t => by rw [List.any_cons, List.any_cons, RelKs.any t]
theorem RelKs.repl {g : GE} {as : AS} {H : Hp} {k : Key} {w : W} {v : V} (r : RelW g as H w v) : ∀ {ws : List (Key × W)} {vs : List (Key × V)}, RelKs g as H ws vs → RelKs g as H (ws.map fun kv => if kv.1 = k then (kv.1, w) else kv) (vs.map fun kv => if kv.1 = k then (kv.1, v) else kv)
  | _, _, .nil => .nil
  | _, _, .cons (k := k') a t => by
    rw [List.map_cons, List.map_cons]
    by_cases h : k' = k
    · simp only [h, if_true]
      exact .cons r (RelKs.repl r t)
    · simp only [h, if_false]
      exact .cons a (RelKs.repl r t)
theorem RelKs.end_ {g : GE} {as : AS} {H : Hp} {k : Key} {w : W} {v : V} (r : RelW g as H w v) : ∀ {ws : List (Key × W)} {vs : List (Key × V)}, RelKs g as H ws vs → RelKs g as H (ws ++ [(k, w)]) (vs ++ [(k, v)])
  | _, _, .nil => .cons r .nil
  | _, _, .cons a t => .cons a (RelKs.end_ r t)
theorem RelKs.put {g : GE} {as : AS} {H : Hp} {k : Key} {w : W} {v : V} {ws : List (Key × W)} {vs : List (Key × V)} (q : RelKs g as H ws vs) (r : RelW g as H w v) : RelKs g as H (putD ws k w) (putK vs k v) := by
  unfold putD putK
  rw [q.any (k := k)]
  split
  · exact q.repl r
  · exact q.end_ r
def oSet : W → W → W → Sto → (Sto → Prop) → Prop := fun o i w m P => match o, i with
  | .ref n, .int k => (match m[n]? with
    | some (.lst l) => (match ixN l.length k with
      | some j => P (m.set n (.lst (l.set j w)))
      | none => False)
    | _ => False)
  | .ref n, .str k => (match m[n]? with
    | some (.dct l) => l.length < sizeLine ∧ P (m.set n (.dct (putD l (.inr k) w)))
    | _ => False)
  | _, _ => False
def gSub (o i : WE) : WG := fun w d m P => o d m (fun x m1 => i d m1 (fun y m2 => oSet x y w m2 (fun m3 => P d m3)) noZ) noZ
def rWSet (g : GE) : TSet := fun o i v H Q => ∃ as wo wi w m P, SR g as H m ∧ RelW g as H wo o ∧ RelW g as H wi i ∧ RelW g as H w v ∧ oSet wo wi w m P ∧ ∀ m' H' as', Fr as as' H H' → SR g as' H' m' → P m' → Q H'
theorem set_w (hu : X.A.units + 1 < cLine) : PSet X (rWSet (gOf X)) := by
  intro pins s σ H o i v ov iv u Q I ro ri rv ⟨as, wo, wi, w, m, P, sr, r1, r2, r3, q, ok⟩
  unfold oSet at q
  split at q
  · rename_i n k
    split at q
    · rename_i l e
      split at q
      · rename_i j ej
        obtain ⟨a, rfl, ea, vs, hH, rl⟩ := relRef sr r1 e
        refine set_list pins s σ H _ i v ov iv u Q I ro ri rv ⟨a, vs, k, j, rfl, relInt r2, hH, by rw [← rl.length]; exact ej, ?_⟩
        have f := sr.putFr (u := .lst (vs.set j v)) ea
        obtain ⟨_, s2⟩ := sr.put (o := .lst (l.set j w)) (u := .lst (vs.set j v)) ea ⟨_, upd_same, (rl.set r3 j).fr f⟩
        exact ok _ _ as f s2 q
      · exact q.elim
    · exact q.elim
  · rename_i n k
    split at q
    · rename_i l e
      obtain ⟨a, rfl, ea, vs, hH, rl⟩ := relRef sr r1 e
      rw [relStr r2] at ri
      refine set_dict hu pins s σ H _ (kV (.inr k)) v ov iv u Q I ro ri rv ⟨a, _, rfl, DPut.k hH (by rw [← rl.length]; exact q.1), ?_⟩
      have f := sr.putFr (u := .dK (putK vs (.inr k) v)) ea
      obtain ⟨_, s2⟩ := sr.put (o := .dct (putD l (.inr k) w)) (u := .dK (putK vs (.inr k) v)) ea ⟨_, upd_same, (rl.put r3).fr f⟩
      exact ok _ _ as f s2 q.2
    · exact q.elim
  · exact q.elim
theorem g_sub {o i : Expr} {to ti : WE} (hu : X.A.units + 1 < cLine) (ho : PE X o (tM (gOf X) E to)) (hi : PE X i (tM (gOf X) E ti))
    (ha : ∀ v, assign (.Subscript o i pos) X.env v = (do
      let ov ← holding [v] (eval o X.env)
      let iv ← holding [v, ov] (eval i X.env)
      standAt pos
      holding [v, ov, iv] (setItem ov iv v)
      release [v, ov, iv] [])) : PG X (.Subscript o i pos) (tMG (gOf X) (gSub to ti)) :=
  PG_mono (pg_sub ho hi (set_w hu) ha) fun v σ H Q ⟨as, w, d, m, P, sr, rw', rs, h, lk⟩ => by
    refine ⟨as, d, m, _, noZ, sr, rs, h, fun x m1 vx H1 as1 f1 s1 r1 h1 => ?_, XLk.no⟩
    refine ⟨as1, d, m1, _, noZ, s1, rs.fr f1, h1, fun y m2 vy H2 as2 f2 s2 r2 h2 => ?_, XLk.no⟩
    exact ⟨as2, x, y, w, m2, _, s2, r1.fr f2, r2, (rw'.fr f1).fr f2, h2, fun m3 H3 as3 f3 s3 h3 => lk d m3 σ H3 as3 (f1.trans (f2.trans f3)) s3 ((rs.fr (f1.trans f2)).fr f3) h3⟩
def wDct (ks : List Str) (t : WA) : WE := fun d m R Z => t d m (fun ws m1 => R (.dct ((ks.map Sum.inr).zip ws)) m1) Z
structure PPW (X : Cx) (E : XK) (pos : Pos) (keys : List (Option Expr)) (values : List Expr) (ks : List Str) (t : WA) : Prop where
  ex : ∃ trs, PPs X pos keys values trs ∧ ∀ σ H Q, tG (gOf X) E (fun as H (ws : List W) (ps : List (V × V)) => ∃ vs, ps = (ks.map V.str).zip vs ∧ RelWs (gOf X) as H ws vs ∧ ws.length = ks.length) t σ H Q → tPairs trs σ H Q
  len : keys.length = ks.length ∧ values.length = ks.length ∧ keys.all (·.isSome) = true
theorem pp_nil : PPW X E pos [] [] [] wNil := ⟨⟨[], pps_nil, fun σ H Q ⟨as, d, m, R, Z, sr, rs, h, ok, ex⟩ => ok _ m [] H as (Fr.refl _ _) sr ⟨[], rfl, .nil, rfl⟩ h⟩, rfl, rfl, rfl⟩
theorem pp_cons {k : Str} {j p} {v : Expr} {keys : List (Option Expr)} {values : List Expr} {ks : List Str} {tv : WE} {t : WA} (hv : PE X v (tM (gOf X) E tv)) (hr : PPW X E pos keys values ks t) :
    PPW X E pos (some (.Constant (.str k) j p) :: keys) (v :: values) (k :: ks) (wCons tv t) := by
  obtain ⟨⟨trs, h1, h2⟩, l1, l2, l3⟩ := hr
  refine ⟨⟨_, pps_cons pe_str hv h1, fun σ H Q ⟨as, d, m, R, Z, sr, rs, h, ok, ex⟩ => ?_⟩, by simp [l1], by simp [l2], by simp [l3]⟩
  refine ⟨as, d, m, _, Z, sr, rs, h, fun w m1 v1 H1 as1 f1 s1 r1 q1 => ?_, ex⟩
  refine h2 σ H1 _ ⟨as1, d, m1, _, Z, s1, rs.fr f1, q1, fun ws m2 ps H2 as2 f2 s2 ⟨vs, e, r2, hl⟩ q2 => ?_, ex.fr f1⟩
  subst e
  exact ok _ m2 _ H2 as2 (f1.trans f2) s2 ⟨v1 :: vs, rfl, .cons (r1.fr f2) r2, by simp [hl]⟩ q2
theorem mergeK_nodup : ∀ (more acc : List (Key × V)), ((acc ++ more).map (·.1)).Nodup → mergeK acc more = acc ++ more
  | [], acc, _ => by simp [mergeK]
  | p :: r, acc, h => by
    have hp : (acc.any fun kv => decide (kv.1 = p.1)) = false := by
      rw [List.any_eq_false]
      intro x hx
      rw [List.map_append, List.nodup_append] at h
      have := h.2.2 x.1 (List.mem_map_of_mem hx) p.1 (by simp)
      simpa using this
    have e : putK acc p.1 p.2 = acc ++ [p] := by
      unfold putK
      rw [hp]
      simp
    show mergeK (putK acc p.1 p.2) r = _
    rw [e, mergeK_nodup r (acc ++ [p]) (by simpa using h)]
    simp
theorem zip_rel {g : GE} {as : AS} {H : Hp} : ∀ {ks : List Key} {ws : List W} {vs : List V}, RelWs g as H ws vs → ws.length = ks.length → RelKs g as H (ks.zip ws) (ks.zip vs)
  | [], ws, vs, r, hl => by
    simp
    exact .nil
  | k :: ks, [], _, r, hl => by simp at hl
  | k :: ks, w :: ws, _, .cons a t, hl => .cons a (zip_rel t (by simpa using hl))
theorem zip_kV : ∀ (ks : List Str) (vs : List V), (ks.map V.str).zip vs = ((ks.map (Sum.inr : Str → Key)).zip vs).map (fun kv => (kV kv.1, kv.2))
  | [], _ => by simp
  | _ :: _, [] => by simp
  | k :: ks, v :: vs => by
    simp only [List.map_cons, List.zip_cons_cons]
    rw [zip_kV ks vs]
    rfl
theorem nodup_inr : ∀ {ks : List Str}, ks.Nodup → (ks.map (Sum.inr : Str → Key)).Nodup
  | [], _ => List.Pairwise.nil
  | k :: ks, h => by
    rw [List.map_cons, List.nodup_cons]
    obtain ⟨h1, h2⟩ := List.nodup_cons.mp h
    refine ⟨fun z => ?_, nodup_inr h2⟩
    obtain ⟨a, ha, e⟩ := List.mem_map.mp z
    exact h1 (Sum.inr.inj e ▸ ha)
theorem w_dct {keys : List (Option Expr)} {values : List Expr} {ks : List Str} {t : WA} (h : PPW X E pos keys values ks t) (h0 : keys ≠ []) (h15 : keys.length ≤ 15) (hnd : ks.Nodup) : PE X (.Dict keys values pos) (tM (gOf X) E (wDct ks t)) := by
  obtain ⟨⟨trs, h1, h2⟩, l1, l2, l3⟩ := h
  refine PE_mono (pe_disp h1 l3 (by rw [l1, l2]) h0 h15) fun σ H Q ⟨as, d, m, R, Z, sr, rs, h, ok, ex⟩ => ?_
  intro p hp
  obtain ⟨f0, s0⟩ := sr.hide (u := .dK []) hp
  refine h2 σ _ _ ⟨_, d, m, _, Z, s0, rs.fr0 f0, h, fun ws m1 ps H1 as1 f1 s1 ⟨vs, e, r1, hl⟩ q => ?_, fun x m2 H2 as2 cls dd f2 s2 r2 z => ?_⟩
  · subst e
    have hpm : p ∈ as1.h := by rw [f1.hid]; exact List.mem_cons_self
    have ep : H1 p = some (.dK []) := f1.hkeep p _ List.mem_cons_self upd_same
    have hlv : vs.length = ks.length := by rw [← r1.length]; exact hl
    refine ⟨ep, (ks.map Sum.inr).zip vs, ?_, ?_, ?_⟩
    · exact zip_kV ks vs
    · rw [List.length_zip, List.length_map, hlv, Nat.min_self, ← l1]; exact h15
    · have hz : (((ks.map (Sum.inr : Str → Key)).zip vs).map (·.1)) = ks.map Sum.inr := by
        rw [List.map_fst_zip]
        simp [hlv]
      have em : mergeK [] ((ks.map (Sum.inr : Str → Key)).zip vs) = (ks.map Sum.inr).zip vs := by
        rw [mergeK_nodup _ _ (by
          rw [List.nil_append, hz]
          exact nodup_inr hnd)]
        rfl
      rw [em]
      obtain ⟨f2, s2⟩ := s1.hid (u := .dK ((ks.map (Sum.inr : Str → Key)).zip vs)) hpm
      obtain ⟨f3, s3⟩ := s2.less (h2 := as.h) (fun b hb => by rw [f1.hid]; exact List.mem_cons_of_mem _ hb)
      have r3 : RelWs (gOf X) ⟨as1.l, as.h⟩ (upd H1 p (.dK ((ks.map (Sum.inr : Str → Key)).zip vs))) ws vs := (r1.fr0 f2).fr0 f3
      have F : Fr as ⟨as1.l, as.h⟩ H (upd H1 p (.dK ((ks.map (Sum.inr : Str → Key)).zip vs))) := by
        have G := f0.trans (f1.toFr0.trans f2)
        refine ⟨⟨G.ext, G.keep, fun b hb => ?_⟩, rfl, fun b o hb q => ?_⟩
        · rcases hb with z | z
          · exact G.fresh b (AS.mem_l z)
          · exact .inl (AS.mem_h z)
        · have hbp : b ≠ p := fun z => by rw [z, hp] at q; cases q
          rw [upd_ne hbp]
          exact f1.hkeep b o (List.mem_cons_of_mem _ hb) (by rw [upd_ne hbp]; exact q)
      refine ok _ m1 _ _ _ F s3 (.dct (fun z => ?_) upd_same (zip_rel r3 (by simp [hl]))) q
      rcases z with z | z
      · exact (s1.hok p hpm).1 z
      · exact sr.out hp (AS.mem_h z)
  · -- an exception on the way: the hidden dict is let go
    obtain ⟨f3, s3⟩ := s2.less (h2 := as.h) (fun b hb => by rw [f2.hid]; exact List.mem_cons_of_mem _ hb)
    have F : Fr as ⟨as2.l, as.h⟩ H H2 := by
      have G := f0.trans f2.toFr0
      refine ⟨⟨G.ext, G.keep, fun b hb => ?_⟩, rfl, fun b o hb q => ?_⟩
      · rcases hb with z | z
        · exact G.fresh b (AS.mem_l z)
        · exact .inl (AS.mem_h z)
      · have hbp : b ≠ p := fun z => by rw [z, hp] at q; cases q
        exact f2.hkeep b o (List.mem_cons_of_mem _ hb) (by rw [upd_ne hbp]; exact q)
    obtain ⟨C, c1, c2, c0, c3⟩ := r2
    refine ex x m2 H2 _ cls dd F s3 ⟨C, c1, c2, c0, fun hx => ?_⟩ z
    obtain ⟨de, vs, e1, e2, e3, e4⟩ := c3 hx
    refine ⟨de, vs, e1, fun z => e2 ?_, e3, Paired.mapP e4 fun _ _ q => ⟨q.1, q.2.fr0 f3⟩⟩
    rcases z with z | z
    · exact AS.mem_l z
    · exact AS.mem_h (by rw [f2.hid]; exact List.mem_cons_of_mem _ z)
/-- {} -/
theorem w_dct0 : PE X (.Dict [] [] pos) (tM (gOf X) E (wC (.dct []))) :=
  PE_mono pe_dnewK fun σ H Q ⟨as, d, m, R, Z, sr, rs, h, ok, ex⟩ p hp => ok _ m _ _ as (Fr.new hp) (sr.new hp) (.dct (sr.out hp) upd_same .nil) h
end
end FW

namespace FW
open PySem PySem.Spec L2 PyProof.Rows
section
variable {X : Cx} {E : XK}
/-- len(set(a)), a a list of texts -/
def tLenSetS (K : PySem.W.Frag) (ta : TE) : TE := fun σ H Q => ta σ H fun x H1 => ∃ l, ∃ xs : List Str, x = .ref l ∧ SqL K H1 l (xs.map V.str) ∧ xs.length + 1 < scanBound ∧ Q (.int (dd [] xs 0 : Nat)) H1
theorem dd_le : ∀ (xs done : List Str) (n : Nat), dd done xs n ≤ n + xs.length
  | [], _, n => Nat.le_refl _
  | x :: r, done, n => by
    have ih := dd_le r (done ++ [x]) (if (done.any fun y => y == x) = true then n else n + 1)
    show dd (done ++ [x]) r (if (done.any fun y => y == x) = true then n else n + 1) ≤ n + (r.length + 1)
    have hk : (if (done.any fun y => y == x) = true then n else n + 1) ≤ n + 1 := by split <;> omega
    omega
theorem pe_lenSetS {a : Expr} {ta : TE} {p p2 q pos : Pos} (hc : X.calm = true) (hg : Gl X "len") (hm : X.mg "len" = none) (hg2 : Gl X "set") (hm2 : X.mg "set" = none) (ha : PE X a ta) (na : notStar a = true) :
    PE X (.Call (.Name "len" p) [.Call (.Name "set" p2) [a] [] q] [] pos) (tLenSetS X.K ta) := by
  have na := starEach_plain (es := []) (env := X.env) na
  refine ⟨fun pins s σ H Q I h => Call_ (ld_blt I hg hm boot_len ?_)⟩
  refine callWith_builtin1 (args_cons (Call_ (ld_blt I hg2 hm2 boot_set ?_)) rfl) rfl rfl
  refine callWith_type1 (args_cons (thn (ha.run pins s σ H _ I h) fun v s1 ⟨x, H1, I1, r1, l, xs, e, hq, hb, q1⟩ => args_nil ?_) na) na rfl
  subst e
  cases r1
  obtain ⟨its, r, pl, _⟩ := I1.list hq
  refine call_set_strs (I1.ok.hd hc) pl.isList (by simpa using strsAre_of r) hb fun hp tk hS kp => args_nil ?_
  have I2 : Inv X pins σ H1 { s1 with heap := hp, toks := tk } := I1.kept fun b o e => kp b o (Heap.lt_size e) e
  obtain ⟨o, es, ep, t, ho, hex, hd, _, _, _, hf, hn⟩ := hS
  have := dd_le xs [] 0
  have sb : scanBound = 4096 := rfl
  exact call_len_set ho hex hd hf (by rw [hn]; omega) ⟨.int (dd [] xs 0 : Nat), H1, I2.tok _, ⟨_, by rw [hn]⟩, q1⟩
end
end FW

namespace FW
open PySem PySem.Spec L2 PyProof.Rows
section
variable {prog : Program} {w : World} {A : Around} {R : Result → Shared → Prop} {I : Addr} {fp wr : List Addr} {n : Nat} {P : Nat → Value → Prop} {St : Nat → Heap → Prop} {kw : List (Str × Value)}
abbrev pairO (l : Array Value) (c : Nat) : Obj := { cls := .type "list", dict := none, data := .seq l c, slots := #[] }
theorem max_loopD (W : Walks prog w A.in1 I fp wr n P St) (bt : Nat → Nat → Bool) (cmp : CmpOf prog w A.in1 .Gt P bt) (S : Addr) (hS0 : S ∉ fp) :
    ∀ (k j : Nat) (sh : Shared) (vb : Value) (c : Nat), n - (j + 1) = k → j + 1 ≤ n → St (j + 1) sh.heap → P (argBest bt j) vb → sh.heap.get? S = some (pairO #[vb, vb] c) →
    (∀ v hp tk, P (argBest bt (n - 1)) v → (∀ b o, b ∉ wr → b ≠ S → sh.heap.get? b = some o → hp.get? b = some o) → R (.ok (.ret v)) { sh with heap := hp, toks := tk }) →
    codeAny (model prog w) A (.builtin "max.loop" ⟨[.ref I, .none, .ref S], kw⟩) R sh := by
  have nwr : S ∉ wr := fun q => hS0 (W.sub _ q)
  have nm : (toString "max" ++ toString ".loop" : String) = "max.loop" := by decide
  intro k
  induction k with
  | zero =>
    intro j sh vb c e1 e2 st pb hS fin
    have e3 : j + 1 = n := by omega
    refine codeAny_builtin F.entry_max_loop ?_
    rw [Around.under_plainId F.plain_max_loop _]
    refine wpAny_bind (wpAny_seqItems hS rfl ?_)
    refine wpAny_bind (wpAny_tryCatch (W.done sh _ _ (e3 ▸ st) fun hp tk kp => ?_))
    have hS' := kp S _ nwr hS
    refine wpAny_bind (wpAny_updateSeq hS' rfl (wpAny_bind (wpAny_letGo (wpAny_pure ?_))))
    exact fin vb _ tk (by rw [← e3]; exact pb) fun b o q1 q2 e => (Heap.get?_update_other _ _ (Ne.symm q2)).trans (kp b o q1 e)
  | succ k ih =>
    intro j sh vb c e1 e2 st pb hS fin
    have lt : j + 1 < n := by omega
    refine codeAny_builtin F.entry_max_loop ?_
    rw [Around.under_plainId F.plain_max_loop _]
    refine wpAny_bind (wpAny_seqItems hS rfl ?_)
    refine wpAny_bind (wpAny_tryCatch (W.item (j + 1) sh _ _ lt st fun v hp tk pv st' kp => ?_))
    have hS' := kp S _ nwr hS
    refine wpAny_bind (wpAny_pure ?_)
    refine wpAny_bind (wpAny_tryCatch (wpAny_holding (wpAny_bind (cmp (j + 1) (argBest bt j) v vb _ _ _ pv pb ?_))))
    refine wpAny_bind (wpAny_holding (wpAny_truthy_bool (wpAny_bind (wpAny_letGo (wpAny_pure ?_)))))
    cases hb : bt (j + 1) (argBest bt j) with
    | true =>
      simp only [if_true]
      refine wpAny_bind (wpAny_updateSeq hS' rfl (wpAny_bind (wpAny_letGo ?_)))
      rw [nm]
      have pv' : P (argBest bt (j + 1)) v := by
        unfold argBest
        rw [hb]; exact pv
      refine wpAny_pure ⟨plainId_quiet F.plain_max_loop _, ih (j + 1) _ v _ (by omega) lt (W.frame _ _ _ st' fun b q o e => ?_) pv' (Heap.get?_update_self _ hS' rfl) fun v2 hp2 tk2 pv2 kp2 => ?_⟩
      · exact (Heap.get?_update_other _ _ (fun z : S = b => hS0 (z ▸ q))).trans e
      · exact fin v2 hp2 tk2 pv2 fun b o q1 q2 e => kp2 b o q1 q2 ((Heap.get?_update_other _ _ (Ne.symm q2)).trans (kp b o q1 e))
    | false =>
      simp only [Bool.false_eq_true, if_false]
      refine wpAny_bind (wpAny_letGo ?_)
      rw [nm]
      have pb' : P (argBest bt (j + 1)) vb := by
        unfold argBest
        rw [hb]; exact pb
      refine wpAny_pure ⟨plainId_quiet F.plain_max_loop _, ih (j + 1) _ vb c (by omega) lt st' pb' hS' fun v2 hp2 tk2 pv2 kp2 => ?_⟩
      exact fin v2 hp2 tk2 pv2 fun b o q1 q2 e => kp2 b o q1 q2 (kp b o q1 e)
theorem max_firstD (W : Walks prog w A.in1 I fp wr n P St) (bt : Nat → Nat → Bool) (cmp : CmpOf prog w A.in1 .Gt P bt) (S : Addr) (hS0 : S ∉ fp) (hn : 0 < n) {sh : Shared} {c : Nat} (st : St 0 sh.heap) (hS : sh.heap.get? S = some (pairO #[] c))
    (fin : ∀ v hp tk, P (argBest bt (n - 1)) v → (∀ b o, b ∉ wr → b ≠ S → sh.heap.get? b = some o → hp.get? b = some o) → R (.ok (.ret v)) { sh with heap := hp, toks := tk }) :
    codeAny (model prog w) A (.builtin "max.loop" ⟨[.ref I, .none, .ref S], kw⟩) R sh := by
  have nwr : S ∉ wr := fun q => hS0 (W.sub _ q)
  have nm : (toString "max" ++ toString ".loop" : String) = "max.loop" := by decide
  refine codeAny_builtin F.entry_max_loop ?_
  rw [Around.under_plainId F.plain_max_loop _]
  refine wpAny_bind (wpAny_seqItems hS rfl ?_)
  refine wpAny_bind (wpAny_tryCatch (W.item 0 sh _ _ hn st fun v hp tk pv st' kp => ?_))
  have hS' := kp S _ nwr hS
  refine wpAny_bind (wpAny_pure ?_)
  refine wpAny_bind (wpAny_updateSeq hS' rfl ?_)
  rw [nm]
  refine wpAny_pure ⟨plainId_quiet F.plain_max_loop _, max_loopD W bt cmp S hS0 _ 0 _ v _ rfl hn (W.frame _ _ _ st' fun b q o e => ?_) pv (Heap.get?_update_self _ hS' rfl) fun v2 hp2 tk2 pv2 kp2 => ?_⟩
  · exact (Heap.get?_update_other _ _ (fun z : S = b => hS0 (z ▸ q))).trans e
  · exact fin v2 hp2 tk2 pv2 fun b o q1 q2 e => kp2 b o q1 q2 ((Heap.get?_update_other _ _ (Ne.symm q2)).trans (kp b o q1 e))
theorem max_noneD (W : Walks prog w A.in1 I fp wr n P St) (S : Addr) (hS0 : S ∉ fp) (hn : n = 0) {sh : Shared} {c : Nat} {x : Str} {d : Value} (st : St 0 sh.heap) (hS : sh.heap.get? S = some (pairO #[] c))
    (fin : ∀ hp tk, (∀ b o, b ∉ wr → b ≠ S → sh.heap.get? b = some o → hp.get? b = some o) → R (.ok (.ret d)) { sh with heap := hp, toks := tk }) :
    codeAny (model prog w) A (.builtin "max.loop" ⟨[.ref I, .none, .ref S], [(x, d)]⟩) R sh := by
  subst hn
  refine codeAny_builtin F.entry_max_loop ?_
  rw [Around.under_plainId F.plain_max_loop _]
  refine wpAny_bind (wpAny_seqItems hS rfl ?_)
  refine wpAny_bind (wpAny_tryCatch (W.done sh _ _ st fun hp tk kp => ?_))
  refine wpAny_bind (wpAny_rule ?_)
  exact wpAny_pure (fin hp tk fun b o q1 _ e => kp b o q1 e)
end
section
variable {prog : Program} {w : World} {A : Around} {E : Value → Shared → Prop} {sh : Shared}
theorem max_argsD (x d : Value) : argsOk "max" ⟨[x], [(Str.ofString "default", d)]⟩ := by unfold argsOk; kernel_rfl
theorem call_maxD {l : Addr} {its : List Value} {ns : List Int} {d : Value} {Q : Value → Shared → Prop} (hh : A.handled = none) (hl : sh.heap.IsList l its.toArray) (hi : IntsAre its ns)
    (fin : ∀ hp tk v, (∀ b o, sh.heap.get? b = some o → hp.get? b = some o) → (ns = [] → v = d) → (ns ≠ [] → ∃ M t, v = .int M t ∧ M ∈ ns ∧ ∀ a ∈ ns, a ≤ M) → Q v { sh with heap := hp, toks := tk }) :
    wpAny (model prog w) A (call (.builtin "max") [.ref l] [(Str.ofString "default", d)]) Q E sh := by
  have nm : (toString "max" ++ toString ".loop" : String) = "max.loop" := by decide
  refine PyProof.Rows.kmk_tree F.kind_max F.plain_max F.entry_max (max_argsD _ _) ?_
  refine wpAny_bind (wpAny_of_eq (show Builtin.Builtins.bindParams "max" ["key", "default"] 0 ⟨[], [(Str.ofString "default", d)]⟩ = pure [none, some d] from rfl) ?_)
  refine wpAny_bind (wpAny_pure ?_)
  obtain ⟨xs, e⟩ := hi.allInts.items
  have hn : numsOf (intItems xs).toList = ns := by rw [← e]; exact hi.numsOf
  rw [nums_intItems] at hn
  subst hn
  rw [e] at hl
  refine wpAny_bind (iter_intList hl fun s2 e2 st hfp hlI => ?_)
  subst e2
  refine wpAny_bind (wpAny_newObj_type ?_)
  rw [nm]
  have W := Walks.list (prog := prog) (w := w) (A := A.in1) hh sh.heap.objs.size l hlI (intItems xs)
  have hS0 : (sh.heap.push { cls := .type "list_iterator", data := .fields #[.ref l, .int 0 0] }).objs.size ∉ [sh.heap.objs.size, l] := fun q => Nat.lt_irrefl _ (hfp _ q)
  refine wpAny_pure ⟨plainId_quiet F.plain_max_loop _, ?_⟩
  have kp2 : ∀ (hp : Heap), (∀ b o, b ∉ [sh.heap.objs.size] → b ≠ (sh.heap.push { cls := .type "list_iterator", data := .fields #[.ref l, .int 0 0] }).objs.size →
      ((sh.heap.push { cls := .type "list_iterator", data := .fields #[.ref l, .int 0 0] }).push (pairO #[] 0)).get? b = some o → hp.get? b = some o) → ∀ b o, sh.heap.get? b = some o → hp.get? b = some o := by
    intro hp k b o e
    have lb := Heap.lt_size e
    refine k b o (fun q => Nat.ne_of_lt lb (List.mem_singleton.mp q)) (fun q => ?_) (Heap.get?_push_of_some _ (Heap.get?_push_of_some _ e))
    rw [Heap.size_push] at q
    exact Nat.ne_of_lt (Nat.lt_succ_of_lt lb) q
  have st2 : ((sh.heap.push { cls := .type "list_iterator", data := .fields #[.ref l, .int 0 0] }).push (pairO #[] 0)).IsListIter sh.heap.objs.size l 0 ∧ ((sh.heap.push { cls := .type "list_iterator", data := .fields #[.ref l, .int 0 0] }).push (pairO #[] 0)).IsList l (intItems xs) :=
    W.frame _ _ _ st fun b _ o e => Heap.get?_push_of_some _ e
  by_cases hz : xs.size = 0
  · refine max_noneD W _ hS0 (by simpa [intItems] using hz) st2 (Heap.get?_push_size _ rfl) fun hp tk k => ?_
    refine fin hp tk d (kp2 hp k) (fun _ => rfl) fun q => absurd ?_ q
    exact List.eq_nil_of_length_eq_zero (by simpa using hz)
  · refine max_firstD W _ (CmpOf.ints_gt (numAt xs) (fun _ _ => intItems_at)) _ hS0 (by simp [intItems]; omega) st2 (Heap.get?_push_size _ rfl) fun v hp tk pv k => ?_
    refine fin hp tk v (kp2 hp k) (fun q => ?_) fun _ => ?_
    · exact absurd (by simpa using congrArg List.length q) hz
    · obtain ⟨t, rfl⟩ := intItems_at pv
      obtain ⟨h1, h2⟩ := argBest_gt (numAt xs) ((intItems xs).size - 1)
      have ez : (intItems xs).size = xs.size := by simp [intItems]
      rw [ez] at h1 h2 ⊢
      refine ⟨_, t, rfl, ?_, fun a ha => ?_⟩
      · rw [numAt_eq]; exact PySem.getD_mem (by rw [List.length_map, Array.length_toList]; omega)
      · obtain ⟨j, hj, rfl⟩ := mem_getD ha
        rw [List.length_map, Array.length_toList] at hj
        rw [← numAt_eq]
        exact h2 j (by omega)
end
section
variable {X : Cx} {E : XK}
def maxD (d : Int) (ns : List Int) : Int := match ns with
  | [] => d
  | _ => lmax ns
def rMaxD (K : PySem.W.Frag) : List V → List V → Hp → VK → Prop := fun vs zs H Q => ∃ (a : Addr) (ns : List Int) (d : Int), vs = [.ref a] ∧ zs = [.int d] ∧ SqL K H a (ns.map V.int) ∧ Q (.int (maxD d ns)) H
theorem cr_maxD (hc : X.calm = true) : CallRK X (.builtin "max") [Str.ofString "default"] (rMaxD X.K) := by
  intro pins s σ H vs zs us ws Q I r rz h
  obtain ⟨a, ns, d, rfl, rfl, hs, q⟩ := h
  obtain rfl := Vals.ref1 r
  obtain ⟨w1, rfl, t1, rfl⟩ := vals1 rz
  obtain ⟨its, rv, hl, _⟩ := I.list hs
  refine call_maxD (I.ok.hd hc) hl.isList rv.ints fun hp tk v kp h1 h2 => ?_
  refine ⟨.int (maxD d ns), H, I.kept kp, ?_, q⟩
  cases ns with
  | nil => exact ⟨t1, h1 rfl⟩
  | cons n r =>
    obtain ⟨M, t, rfl, hm, hle⟩ := h2 (by simp)
    have : M = lmax (n :: r) := Int.le_antisymm (lmax_ge hm) (hle _ (lmax_mem (by simp)))
    exact ⟨t, by rw [this]; rfl⟩
end
section
variable {X : Cx} {E : XK} {pos : Pos}
def strsW : List W → Option (List Str)
  | [] => some []
  | .str i :: r => (match strsW r with
    | some l => some (i :: l)
    | none => none)
  | _ :: _ => none
theorem strsW_map (ns : List Str) : strsW (ns.map W.str) = some ns := by
  induction ns with
  | nil => rfl
  | cons a r ih => simp [strsW, ih]
theorem strsW_rel {g : GE} {as : AS} {H : Hp} : ∀ {ws : List W} {vs : List V} {ns : List Str}, RelWs g as H ws vs → strsW ws = some ns → vs = ns.map V.str
  | [], _, _, r, e => by cases r; cases e; rfl
  | w :: ws, _, ns, r, e => by
    cases r with
    | cons a t =>
      cases w with
      | str i =>
        simp only [strsW] at e
        cases q : strsW ws with
        | none => simp [q] at e
        | some l =>
          simp only [q] at e
          cases e
          rw [relStr a, strsW_rel t q]
          rfl
      | _ => cases e
def lstrOf (m : Sto) (w : W) : Option (List Str) := match lstOf m w with
  | some l => strsW l
  | none => none
theorem lstr_rel {g : GE} {as : AS} {H : Hp} {m : Sto} {w : W} {v : V} {ns : List Str} (s : SR g as H m) (r : RelW g as H w v) (e : lstrOf m w = some ns) : ∃ a, v = .ref a ∧ SqL g.K H a (ns.map V.str) := by
  unfold lstrOf at e
  cases q : lstOf m w with
  | none => rw [q] at e; cases e
  | some l =>
    rw [q] at e
    obtain ⟨a, vs, h1, h2, h3⟩ := relL s r q
    have e' : strsW l = some ns := e
    rw [strsW_rel h3 e'] at h2
    exact ⟨a, h1, h2⟩
/-- len(set(a)) -/
def wLenSet (a : WE) : WE := fun d m R Z => a d m (fun x m1 => match lstrOf m1 x with
  | some xs => xs.length ≤ 4000 ∧ R (.int (dd [] xs 0 : Nat)) m1
  | none => False) Z
theorem w_lenSet {a : Expr} {ta : WE} {p p2 q : Pos} (hc : X.calm = true) (hg : Gl X "len") (hm : X.mg "len" = none) (hg2 : Gl X "set") (hm2 : X.mg "set" = none) (ha : PE X a (tM (gOf X) E ta)) (na : notStar a = true) :
    PE X (.Call (.Name "len" p) [.Call (.Name "set" p2) [a] [] q] [] pos) (tM (gOf X) E (wLenSet ta)) :=
  PE_mono (pe_lenSetS hc hg hm hg2 hm2 ha na) fun σ H Q ⟨as, d, m, R, Z, sr, rs, h, ok, ex⟩ => by
    refine ⟨as, d, m, _, Z, sr, rs, h, fun w m1 v H1 as1 f1 s1 r1 h1 => ?_, ex⟩
    cases e : lstrOf m1 w with
    | none => rw [e] at h1; exact h1.elim
    | some xs =>
      rw [e] at h1
      obtain ⟨a', rfl, h2⟩ := lstr_rel s1 r1 e
      have sb : scanBound = 4096 := rfl
      exact ⟨a', xs, rfl, h2, by omega, ok _ m1 _ H1 as1 f1 s1 (.int _) h1.2⟩
/-- max(a, default=c) -/
def wMaxD (a : WE) (c : Int) : WE := fun d m R Z => a d m (fun x m1 => match lintOf m1 x with
  | some ns => R (.int (maxD c ns)) m1
  | none => False) Z
theorem w_maxD {a : Expr} {ta : WE} {p kp cp : Pos} {c : Int} {j : Nat} (hc : X.calm = true) (hg : Gl X "max") (hm : X.mg "max" = none) (ha : PE X a (tM (gOf X) E ta)) (na : notStar a = true) :
    PE X (.Call (.Name "max" p) [a] [⟨some "default", .Constant (.int c) j cp, kp⟩] pos) (tM (gOf X) E (wMaxD ta c)) := by
  have na' := starEach_plain (es := []) (env := X.env) na
  refine PE_mono (pe_callBK (cr_maxD hc) hg hm (by decide +kernel) (pa_cons ha pa_nil na') (pk_cons (pe_int (i := c)) pk_nil) (he := by rw [na']; rfl) (hpl := by rw [na']; rfl)) fun σ H Q ⟨as, d, m, R, Z, sr, rs, h, ok, ex⟩ => ?_
  refine ⟨as, d, m, _, Z, sr, rs, h, fun w m1 v H1 as1 f1 s1 r1 h1 => ?_, ex⟩
  cases e : lintOf m1 w with
  | none => rw [e] at h1; exact h1.elim
  | some ns =>
    rw [e] at h1
    obtain ⟨a', rfl, h2⟩ := lint_rel s1 r1 e
    exact ⟨a', ns, c, rfl, rfl, h2, ok _ m1 _ H1 as1 f1 s1 (.int _) h1⟩
end
end FW

namespace FW
open PySem PySem.Spec L2 PyProof.Rows
def bigB (s : Shared) (H : Hp) (st : List Env) : Heap := PySem.W.hideAll s.heap (trk s.heap H ++ frs st)
section
variable {s : Shared} {H : Hp} {st : List Env} {b : Addr} {o : Obj}
theorem bigB_get (e : s.heap.get? b = some o) (n : H b = none) (f : b ∉ frs st) : (bigB s H st).get? b = some o :=
  PySem.W.hideAll_get _ e fun z => by
    rcases List.mem_append.mp z with z | z
    · have q : (H b).isSome = true := (List.mem_filter.mp z).2
      rw [n] at q; cases q
    · exact f z
theorem of_bigB (e : (bigB s H st).get? b = some o) : s.heap.get? b = some o ∧ H b = none ∧ b ∉ frs st := by
  have e' : s.heap.get? b = some o := PySem.W.of_hideAll _ e
  have key : b ∉ trk s.heap H ++ frs st := fun z => by
    have q : (bigB s H st).get? b = none := PySem.W.hideAll_none _ z
    rw [q] at e; cases e
  refine ⟨e', ?_, fun z => key (List.mem_append_right _ z)⟩
  cases q : H b with
  | none => rfl
  | some x => exact absurd (List.mem_append_left _ (List.mem_filter.mpr ⟨List.mem_range.mpr (Heap.lt_size e'), by simp [q]⟩)) key
end
theorem GB.keeps {K : PySem.W.Frag} {mg : Str → Option Value} {base base' : Heap} (g : GB K mg base) (k : ∀ b o, base.get? b = some o → base'.get? b = some o) : GB K mg base' :=
  ⟨g.kin.keeps k, g.ns.keeps k, fun p hp => let t := g.tb p hp; ⟨t.code.keeps k, t.bm.keeps k, t.gP⟩⟩
section
variable {X : Cx} {pins : List (Addr × Obj)} {σ : L2.St} {H : Hp} {s : Shared}
theorem big_keeps (I : Inv X pins σ H s) : ∀ b o, X.base.get? b = some o → (bigB s H X.stack).get? b = some o := fun b o e => by
  obtain ⟨h1, h2⟩ := I.bs b o e
  refine bigB_get h1 h2 fun z => ?_
  have := (I.stack.mem z).1
  rw [e] at this; cases this
theorem big_mod (I : Inv X pins σ H s) : L2.Mod X.K X.mg (bigB s H X.stack) := by
  have k := big_keeps I
  have M := I.mod
  refine ⟨M.kin.keeps k, M.glob.keeps k, ?_, M.nolimit.keeps k⟩
  obtain ⟨mb, h1, h2⟩ := M.blt
  exact ⟨mb, h1.keeps k, h2⟩
theorem frames_big {h base base' : Heap} : ∀ {l : List Env}, h.FunFrames base l → (∀ b ∈ frs l, base'.get? b = none) → h.FunFrames base' l
  | [], _, _ => trivial
  | env :: r, ⟨h1, ⟨L, o, hf, _, ho, hd⟩, h3⟩, k => by
    have hL : L ∈ frs (env :: r) := by unfold frs; rw [List.filterMap_cons, hf]; exact List.mem_cons_self
    exact ⟨h1, ⟨L, o, hf, k L hL, ho, hd⟩, frames_big h3 fun b hb => k b (by unfold frs at hb ⊢; rw [List.filterMap_cons, hf]; exact List.mem_cons_of_mem _ hb)⟩
theorem big_env0 (I : Inv X pins σ H s) : Env0 X.prog X.w X.K X.mg (bigB s H X.stack) X.A X.stack s H :=
  ⟨I.ok.frames, big_mod I, fun b o e => ⟨(of_bigB e).1, (of_bigB e).2.1⟩, Nat.le_of_eq (PySem.W.hideAll_size _ _), frames_big I.stack fun b hb => PySem.W.hideAll_none _ (List.mem_append_right _ hb), I.stkFree, I.hok, I.bare⟩
end
structure LamP (sc scope : Scope) (ps : List Str) : Prop where
  kind : scope.kind = .function
  co : scope.isCoroutine = false
  gen : scope.isGenerator = false
  own : ∀ y ∈ scope.names, y.2 ≠ .cell ∧ (y.2 = .local → y.1 ∈ ps)
  par : ∀ y ∈ ps, scope.names.lookup y = some .local
  free : ∀ y ∈ scope.names, y.2 = .free → sc.names.lookup y.1 = some .cell ∨ sc.names.lookup y.1 = some .free
def lamPB (sc scope : Scope) (ps : List Str) : Bool :=
  decide (scope.kind = .function) && (!scope.isCoroutine && (!scope.isGenerator && ((scope.names.all fun y => !decide (y.2 = .cell) && ((!decide (y.2 = .local) || decide (y.1 ∈ ps)) && (!decide (y.2 = .free) || (decide (sc.names.lookup y.1 = some .cell) || decide (sc.names.lookup y.1 = some .free))))) &&
    ps.all fun y => decide (scope.names.lookup y = some .local))))
theorem lamP_by {sc scope : Scope} {ps : List Str} (h : lamPB sc scope ps = true) : LamP sc scope ps := by
  unfold lamPB at h
  simp only [Bool.and_eq_true, Bool.or_eq_true, Bool.not_eq_true', decide_eq_true_eq, decide_eq_false_iff_not, List.all_eq_true] at h
  obtain ⟨h1, h2, h3, h4, h5⟩ := h
  refine ⟨h1, h2, h3, fun y hy => ⟨(h4 y hy).1, fun e => ?_⟩, h5, fun y hy e => ?_⟩
  · rcases (h4 y hy).2.1 with z | z
    · exact absurd e z
    · exact z
  · rcases (h4 y hy).2.2 with z | z | z
    · exact absurd e z
    · exact .inl z
    · exact .inr z
/-- values in slots -/
def gsetV : List Nat → List V → L2.St → L2.St
  | i :: is, v :: vs, d => gsetV is vs (d.set i (some v))
  | _, _, d => d
theorem gset_rel {g : GE} {as : AS} {H : Hp} : ∀ {is : List Nat} {ws : List W} {vs : List V} {d : List (Option W)} {σ : L2.St}, RelWs g as H ws vs → RelS g as H σ d → RelS g as H (gsetV is vs σ) (gsetN is ws d)
  | [], _, _, _, _, .nil, rs => rs
  | [], _, _, _, _, .cons _ _, rs => rs
  | _ :: _, _, _, _, _, .nil, rs => rs
  | i :: is, _, _, _, _, .cons a t, rs => gset_rel (is := is) t (rs.set a i)
theorem none_rel {g : GE} {as : AS} {H : Hp} (n : Nat) : RelS g as H (List.replicate n none) (List.replicate n none) :=
  ⟨by simp, fun i w e => by rw [List.getElem?_replicate] at e; split at e <;> cases e⟩
theorem gset_len : ∀ (is : List Nat) (vs : List V) (σ : L2.St), (gsetV is vs σ).length = σ.length
  | [], [], _ => rfl
  | [], _ :: _, _ => rfl
  | _ :: _, [], _ => rfl
  | i :: is, v :: vs, σ => by show (gsetV is vs (σ.set i (some v))).length = _; rw [gset_len]; simp
/-- what is set comes from σ -/
theorem gset_from {σ : L2.St} : ∀ {is : List Nat} {vs : List V} {τ : L2.St}, (∀ (i : Nat) (v : V), τ[i]? = some (some v) → σ[i]? = some (some v)) → (∀ (k i : Nat) (v : V), is[k]? = some i → vs[k]? = some v → σ[i]? = some (some v)) → ∀ (i : Nat) (v : V), (gsetV is vs τ)[i]? = some (some v) → σ[i]? = some (some v)
  | [], [], _, h, _ => h
  | [], _ :: _, _, h, _ => h
  | _ :: _, [], _, h, _ => h
  | j :: is, u :: vs, τ, h, k => gset_from (is := is) (vs := vs) (τ := τ.set j (some u)) (fun i v e => by
      by_cases hj : j = i
      · subst hj
        have hl : j < τ.length := by simpa using (List.getElem?_eq_some_iff.mp e).1
        rw [List.getElem?_set_self hl] at e; cases e
        exact k 0 j u rfl rfl
      · rw [List.getElem?_set_ne hj] at e; exact h i v e) fun n i v e1 e2 => k (n + 1) i v e1 e2
/-- the slots of a lambda's body: what it holds, its parameter -/
def lamV (n : Nat) (fr : List Nat) (vs : List V) (own : List Nat) (xs : List V) : L2.St := gsetV own xs (gsetV fr vs (List.replicate n none))
def lamW (n : Nat) (fr : List Nat) (ws : List W) (own : List Nat) (ys : List W) : List (Option W) := gsetN own ys (gsetN fr ws (List.replicate n none))
/-- its parameters' slots: none or one -/
inductive OwnAt (N : List Str) : List Str → List Nat → Prop
  | no : OwnAt N [] []
  | one {a : Str} {j : Nat} : N[j]? = some a → OwnAt N [a] [j]
def spL (g : GE) (F : W) (f : Addr) (n : Nat) (con : Con) : Sp := fun xs H Q E => ∃ as ys m R Z, SR g as H m ∧ RelW g as H F (.ref f) ∧ RelWs g as H ys xs ∧ ys.length = n ∧ con ys m R Z ∧
  (∀ w m' v H' as', Fr as as' H H' → SR g as' H' m' → RelW g as' H' w v → R w m' → Q v H') ∧ XLk g E as H Z
/-- F is a lambda that keeps con -/
def LamF (P : Program) (w : World) (K : PySem.W.Frag) (mg : Str → Option Value) (base : Heap) (k : Nat) (F : W) (n : Nat) (con : Con) : Prop :=
  ∃ f c q vs ws fd ps, F = .fnv f c q vs ws ∧ FnOk P w K mg base (CX P w) k f fd ps (spL ⟨K, w, mg⟩ F f n con) ∧ List.length ps = n ∧ (∃ oc od fd' sl, base.get? f = some ⟨oc, od, .func fd', sl⟩) ∧ ∀ (s : Shared) (us : List Value), us.length = n → BindsTo s fd ⟨us, []⟩ (ps.zip us)
abbrev baseCx (X : Cx) (B : Heap) : Cx := { X with base := B }
/-- the context of a lambda's body, with our exceptions -/
def lamCxN (X : Cx) (A : Around) (outer : List Env) (s : Shared) (H : Hp) (E : XK) (scope : Scope) (f c' : Addr) : Cx :=
  { LamX.lamCx X A outer s H E scope f c' with xe := fun e s1 => wpAny (model X.prog X.w) (A.deeper (LamX.lamEnv X scope s.heap.objs.size f c')) (leaving (LamX.lamEnv X scope s.heap.objs.size f c') e) (fun _ s2 => CX X.prog X.w outer H s E e s2) (fun e2 s2 => CX X.prog X.w outer H s E e2 s2) s1 }
section
variable {X : Cx} {pins : List (Addr × Obj)} {σ : L2.St} {H HZ : Hp} {s s1 : Shared}
theorem lam_inv {A : Around} {outer : List Env} {E : XK} {scope : Scope} {ps : List Str} {fr own : List Nat} {f c' : Addr} {h₁ : Heap} {tk : Nat} {us : List Value} {xs vs : List V} (I : Inv X pins σ H s) (L : LamP X.env.scope scope ps) (hfn : ∀ y, X.fn y = true) (nd : X.N.Nodup) (hown : OwnAt X.N ps own)
    (e0 : Env0 X.prog X.w X.K X.mg (bigB s H X.stack) A outer s1 HZ) (hd : A.handled = none) (hvs : ∀ (k i : Nat) (v : V), fr[k]? = some i → vs[k]? = some v → σ[i]? = some (some v)) (rv : Vals xs us) (hl : us.length = ps.length)
    (hns : h₁.Ns s1.heap.objs.size fun y => (ps.zip us).reverse.lookup y) (kp : ∀ b o, s1.heap.get? b = some o → h₁.get? b = some o) :
    Inv (lamCxN (baseCx X (bigB s H X.stack)) A outer s1 HZ E scope f c') [] (lamV X.N.length fr vs own xs) HZ { s1 with heap := h₁, toks := tk } := by
  have has : ∀ y ∈ scope.names, y.2 = .free → ∃ c, X.env.cells.lookup y.1 = some c := fun y hy e => by
    rcases L.free y hy e with k | k
    · exact I.ok.has _ (.inl k)
    · exact I.ok.has _ (.inr k)
  have cm : ∀ {y c}, (cloFrom X.env.cells scope.names []).lookup y = some c → X.env.cells.lookup y = some c := fun {y c} e => by
    rcases cloFrom_mem (PySem.mem_of_lookup e) with hm | ⟨h1, h2⟩
    · cases hm
    · obtain ⟨c1, hc⟩ := has _ h1 rfl
      have hc' : X.env.cells.lookup y = some c1 := hc
      rw [h2, hc']; rfl
  have look : ∀ {y}, scope.names.lookup y = some .free → ∃ c, (cloFrom X.env.cells scope.names []).lookup y = some c := fun {y} hl =>
    mem_lookup (cloFrom_has (cells := X.env.cells) (acc := []) (PySem.mem_of_lookup hl))
  -- the cells lie in the greater base
  have cellK : ∀ {c : Addr} {v : Option Value}, H c = none → c ∉ frs X.stack → s.heap.IsCell c v → h₁.IsCell c v ∧ HZ c = none := fun {c v} n nf ⟨o, ho, hdt⟩ => by
    obtain ⟨q1, q2⟩ := e0.bs c o (bigB_get ho n nf)
    exact ⟨⟨o, kp _ _ q1, hdt⟩, q2⟩
  have nofr : ∀ {y c}, X.env.cells.lookup y = some c → c ∉ frs X.stack := fun {y c} e z => by
    rcases List.mem_cons.mp (I.stkSub c z) with e2 | e2
    · exact I.cne y c e e2
    · obtain ⟨_, o2, ho2, _⟩ := I.ok.funs.mem e2
      exact absurd (Nat.lt_of_lt_of_le (Heap.lt_size ho2) (I.ok.cab y c (hfn y) e)) (Nat.lt_irrefl _)
  have noA : ∀ b : Addr, b ∉ (lamCxN (baseCx X (bigB s H X.stack)) A outer s1 HZ E scope f c').ex := fun b z => absurd (show b ∈ ([] : List Addr) from z) (by simp)
  have slots : ∀ (i : Nat) (y : Str) (v : V), X.N[i]? = some y → (lamV X.N.length fr vs own xs)[i]? = some (some v) → Vis scope y →
      ∃ u, RelV v u ∧ ((scope.names.lookup y = some .local ∧ (ps.zip us).reverse.lookup y = some u) ∨ (scope.names.lookup y = some .free ∧ ∃ c, X.env.cells.lookup y = some c ∧ s.heap.IsCell c (some u))) := fun i y v e1 e2 e3 => by
    have cap : scope.names.lookup y = some .free → σ[i]? = some (some v) → ∃ u, RelV v u ∧ ∃ c, X.env.cells.lookup y = some c ∧ s.heap.IsCell c (some u) := fun k e => by
      obtain ⟨m, hn, hl⟩ := I.loc
      have kk := L.free _ (PySem.mem_of_lookup k) rfl
      obtain ⟨u, r, q⟩ := hl i y v e1 e (kk.elim (fun k => .inr (.inl k)) (fun k => .inr (.inr k)))
      rcases q with ⟨k', _⟩ | ⟨_, c, e', z⟩
      · have k' : X.env.scope.names.lookup y = some .local := k'
        rcases kk with k2 | k2 <;> rw [show X.env.scope.names.lookup y = _ from k2] at k' <;> cases k'
      · exact ⟨u, r, c, e', z⟩
    have frm : ∀ (i : Nat) (v : V), (gsetV fr vs (List.replicate X.N.length none))[i]? = some (some v) → σ[i]? = some (some v) := gset_from (fun i v e => by rw [List.getElem?_replicate] at e; split at e <;> cases e) hvs
    unfold lamV at e2
    rcases e3 with k | k | k
    · have hy := (L.own _ (PySem.mem_of_lookup k)).2 rfl
      cases hown with
      | no => cases hy
      | @one a j hj =>
        have ey : y = a := by simpa using hy
        subst ey
        have ei : i = j := (nodup_at nd e1 hj)
        subst ei
        match us, xs, rv, hl with
        | [u], [x1], rv, hl =>
          cases rv with
          | cons r _ =>
            have hlt : i < (gsetV fr vs (List.replicate X.N.length none)).length := by
              rw [gset_len, List.length_replicate]
              exact (List.getElem?_eq_some_iff.mp e1).1
            have e2 : ((gsetV fr vs (List.replicate X.N.length none)).set i (some x1))[i]? = some (some v) := e2
            rw [List.getElem?_set_self hlt] at e2
            cases e2
            exact ⟨u, r, .inl ⟨k, by simp [List.lookup]⟩⟩
        | [], _, rv, hl => simp at hl
        | _ :: _ :: _, _, rv, hl => simp at hl
        | [_], [], rv, hl => cases rv
        | [_], _ :: _ :: _, rv, hl => cases rv with | cons _ t => cases t
    · exact absurd rfl (L.own _ (PySem.mem_of_lookup k)).1
    · have e4 : (gsetV fr vs (List.replicate X.N.length none))[i]? = some (some v) := by
        cases hown with
        | no =>
          have : gsetV [] xs (gsetV fr vs (List.replicate X.N.length none)) = gsetV fr vs (List.replicate X.N.length none) := by cases xs <;> rfl
          rw [this] at e2; exact e2
        | @one a j hj =>
          have hij : j ≠ i := fun z => by
            subst z
            rw [hj] at e1; cases e1
            have pz := L.par _ List.mem_cons_self
            rw [pz] at k; cases k
          cases xs with
          | nil => exact e2
          | cons x1 r =>
            have : gsetV [j] (x1 :: r) (gsetV fr vs (List.replicate X.N.length none)) = (gsetV fr vs (List.replicate X.N.length none)).set j (some x1) := by cases r <;> rfl
            rw [this, List.getElem?_set_ne hij] at e2
            exact e2
      obtain ⟨u, r, q⟩ := cap k (frm i v e4)
      exact ⟨u, r, .inr ⟨k, q⟩⟩
  constructor
  · exact ⟨e0.mod, L.kind, rfl, rfl, Nat.le_refl _, fun y z c e1 e2 => I.ok.inj y z c (cm e1) (cm e2), fun y hy => by
        have hy : scope.names.lookup y = some .cell ∨ scope.names.lookup y = some .free := hy
        rcases hy with hy | hy
        · exact absurd rfl (L.own _ (PySem.mem_of_lookup hy)).1
        · exact look hy,
      fun y c z _ => (Bool.false_ne_true z).elim, fun _ => hd, Around.frames_deeper e0.frames, .inr ⟨rfl, rfl⟩, fun b z => absurd z (noA b), e0.bs, e0.bsz, fun b _ _ => noA b, fun b z => absurd z (noA b), e0.funs, e0.frf⟩
  · rfl
  · exact e0.bare
  · exact Un.kept kp
  · refine ⟨_, hns, fun i y v e1 e2 e3 => ?_⟩
    obtain ⟨u, r, q⟩ := slots i y v e1 e2 e3
    refine ⟨u, r, ?_⟩
    rcases q with ⟨k, q⟩ | ⟨k, c, e, z⟩
    · exact .inl ⟨k, q⟩
    · obtain ⟨c2, h2⟩ := look k
      have e' := cm h2
      rw [e] at e'
      cases e'
      exact .inr ⟨.inr k, c, h2, (cellK (I.freeC y c e) (nofr e) z).1⟩
  · intro y c e
    obtain ⟨v, z⟩ := I.cell y c (cm e)
    exact ⟨v, (cellK (I.freeC y c (cm e)) (nofr (cm e)) z).1⟩
  · exact e0.hok.fresh (Nat.le_refl _)
  · intro y c e
    obtain ⟨v, z⟩ := I.cell y c (cm e)
    exact (cellK (I.freeC y c (cm e)) (nofr (cm e)) z).2
  · intro q hq
    exact absurd (show q ∈ ([] : List (Addr × Obj)) ++ [] from hq) (by simp)
  · exact e0.hok.kept kp
  · show (lamV X.N.length fr vs own xs).length = X.N.length
    unfold lamV
    rw [gset_len, gset_len, List.length_replicate]
/-- the lambda at f keeps what its body's reading says -/
theorem lam_fnok {scope : Scope} {ps : List Str} {fr own : List Nat} {f c' : Addr} {params : Arguments} {body : Expr} {pm ctv : Value} {vs : List V} {ws : List W} {tb : WE} {k : Nat} (I : Inv X pins σ H s) (L : LamP X.env.scope scope ps) (hfn : ∀ y, X.fn y = true) (nd : X.N.Nodup) (hown : OwnAt X.N ps own)
    (hf : s.heap.get? f = some (PySem.W.kla_obj "<lambda>" (X.env.qual ++ "<lambda>") params body scope (cloFrom X.env.cells scope.names []) pm c' ctv)) (hfN : H f = none) (hfr : f ∉ frs X.stack)
    (hvs : ∀ (k i : Nat) (v : V), fr[k]? = some i → vs[k]? = some v → σ[i]? = some (some v))
    (hbind : ∀ us : List Value, us.length = ps.length → bindArgs (PySem.W.kla_fn "<lambda>" (X.env.qual ++ "<lambda>") params body scope (cloFrom X.env.cells scope.names []) pm (.ref c') ctv) ⟨us, []⟩ = pure (ps.zip us))
    (hbody : ∀ (A : Around) (outer : List Env) (s1 : Shared) (H1 : Hp) (E : XK), Room k (A.deeper (LamX.lamEnv X scope s1.heap.objs.size f c')) → PE (lamCxN (baseCx X (bigB s H X.stack)) A outer s1 H1 E scope f c') body (tM (gOf X) E tb)) :
    LamF X.prog X.w X.K X.mg (bigB s H X.stack) (k + 1) (.fnv f c' (X.env.qual ++ "<lambda>") vs ws) ps.length (fun ys m R Z => tb (lamW X.N.length fr ws own ys) m R Z) := by
  refine ⟨f, c', _, vs, ws, PySem.W.kla_fn "<lambda>" (X.env.qual ++ "<lambda>") params body scope (cloFrom X.env.cells scope.names []) pm (.ref c') ctv, ps, rfl, ⟨fun xs H1 Q E h => ?_, fun A outer s1 HZ args us xs Q E hr e0 hb rv h => ?_⟩, rfl, ⟨_, _, _, _, bigB_get hf hfN hfr⟩, fun s us hl => .of_eq (hbind us hl)⟩
  · obtain ⟨as, ys, m, R, Z, sr, r0, r1, hl, _⟩ := h
    rw [← r1.length]; exact hl
  · obtain ⟨as, ys, m, R, Z, sr, r0, r1, hl, hc, ok, ex⟩ := h
    have hul : us.length = ps.length := by rw [← rv.length, ← r1.length]; exact hl
    have of1 := (e0.bs f _ (bigB_get hf hfN hfr)).1
    cases r0 with
    | fnv hca hcc rw' =>
      obtain ⟨⟨oc, cvs, t, hoc, hdc, hvc⟩, _, _⟩ := e0.hok c' _ hcc
      refine PySem.W.kla_callFunE hr.depth of1 rfl L.co L.gen rfl ⟨c', oc, cvs, t, rfl, hoc, hdc, hvc⟩ (hb _ _ _ _ ?_)
      refine wpAny_newFunctionEnv (fun y hy => (L.own y hy).1) (fun y hy => L.par y.1 (List.of_mem_zip hy).1) (fun h₁ hns hsb => ⟨(e0.mod.nolimit.keeps fun b o e => (e0.bs b o e).1).fresh _ hsb, ?_⟩) L.kind
      show codeAny _ _ (.expr body (LamX.lamEnv X scope s1.heap.objs.size f c')) _ _
      have kp : ∀ b o, s1.heap.get? b = some o → h₁.get? b = some o := fun b o e => hsb.extBut b o (Nat.ne_of_lt (Heap.lt_size e)) (Heap.get?_push_of_some _ e)
      have J : Inv (lamCxN (baseCx X (bigB s H X.stack)) A outer s1 HZ E scope f c') [] (lamV X.N.length fr vs own xs) HZ { s1 with heap := h₁, toks := s1.toks + (ps.zip us).length } :=
        lam_inv I L hfn nd hown e0 hr.hd hvs rv hul hns kp
      refine PySem.W.kla_codeExpr (wpAny_mono ((hbody A outer s1 HZ E (hr.deeper _)).run [] _ _ HZ Q J ?_) (fun v s' hq => ?_) fun e s' hq => hq)
      · exact ⟨as, _, m, R, Z, sr, gset_rel r1 (gset_rel rw' (none_rel _)), hc, ok, ex⟩
      · obtain ⟨w', H', J', rv', q⟩ := hq
        exact ⟨w', H', J'.os, J'.bare, J'.base, J'.hok, rv', q⟩
end
def wCallV (i : Nat) (F : W) (n : Nat) (con : Con) (t : WA) : WE := fun d m R Z => getS d i = some F ∧ t d m (fun ys m1 => ys.length = n ∧ con ys m1 R Z) Z
section
variable {X : Cx} {E : XK} {pos : Pos}
theorem lam_run {k n : Nat} {F : W} {con : Con} {pins : List (Addr × Obj)} {s : Shared} {σ : L2.St} {H : Hp} {Q : VK} {us : List Value} {xs : List V} {as : AS} {m : Sto} {R : WR} {Z : WZ} {ys : List W} {f : Addr} {fd : FuncData} {ps : List Str}
    (FO : FnOk X.prog X.w X.K X.mg X.base (CX X.prog X.w) k f fd ps (spL (gOf X) F f n con)) (hps : ps.length = n) (hb : ∀ (s : Shared) (us : List Value), us.length = n → BindsTo s fd ⟨us, []⟩ (ps.zip us)) (hr : Room k X.A) (hx : Passes (CX X.prog X.w) X E)
    (I : Inv X pins σ H s) (rv : Vals xs us) (sr : SR (gOf X) as H m) (rf : RelW (gOf X) as H F (.ref f)) (ry : RelWs (gOf X) as H ys xs) (hl : ys.length = n) (hc : con ys m R Z)
    (ok : ∀ w m' v H' as', Fr as as' H H' → SR (gOf X) as' H' m' → RelW (gOf X) as' H' w v → R w m' → Q v H') (ex : XLk (gOf X) E as H Z) : wpAny (model X.prog X.w) X.A (call (.ref f) us) (EP X pins σ Q) X.xe s := by
  have hul : us.length = n := by rw [← rv.length, ← ry.length]; exact hl
  refine wpAny_call (codeAny_mono (FO.run X.A X.stack s H ⟨us, []⟩ us xs Q E hr I.env0 (hb s us hul) rv ⟨as, ys, m, R, Z, sr, rf, ry, hl, hc, ok, ex⟩) fun r s' hq => ?_)
  cases r with
  | error e => exact hx pins σ H s e s' I hq
  | ok fl =>
    cases fl with
    | ret u => exact I.after hq
    | next => exact False.elim hq
    | brk => exact False.elim hq
    | cont => exact False.elim hq
theorem slot_rel {g : GE} {as : AS} {H : Hp} {σ : L2.St} {d : List (Option W)} {i : Nat} {F : W} (rs : RelS g as H σ d) (h : getS d i = some F) : ∃ v, σ[i]? = some (some v) ∧ RelW g as H F v := by
  unfold getS at h
  cases e : d[i]? with
  | none => rw [e] at h; cases h
  | some o =>
    rw [e] at h
    cases o with
    | none => cases h
    | some w => cases h; exact rs.ok i F e
theorem w_callV {x : Str} {i k n : Nat} {F : W} {con : Con} {p : Pos} {e : Expr} {es : List Expr} {t : WA} (LF : LamF X.prog X.w X.K X.mg X.base k F n con) (hr : Room k X.A) (hN : X.N[i]? = some x) (hv : Vis X.env.scope x) (hx : Passes (CX X.prog X.w) X E) (ha : PA X (e :: es) (tMA (gOf X) E t))
    (hdb : (x == ("__debug__" : Str)) = false) (hcd : (x == ("__classdict__" : Str)) = false) (he : notStar e = true) (hes : es.all notStar = true) : PE X (.Call (.Name x p) (e :: es) [] pos) (tM (gOf X) E (wCallV i F n con t)) := by
  obtain ⟨f, c, q, vs, ws, fd, ps, rfl, FO, hps, ⟨oc, od, fd', sl, hf⟩, hb⟩ := LF
  refine ⟨fun pins s σ H Q I ⟨as, d, m, R, Z, sr, rs, ⟨h0, h⟩, ok, ex⟩ => ?_⟩
  obtain ⟨v0, hs, r0⟩ := slot_rel rs h0
  have ev : v0 = .ref f := by cases r0; rfl
  subst ev
  refine wpAny_Call_Name_kw (thn ((pe_var (pos := p) hN hv hdb hcd).run pins s σ H (fun v H1 => v = .ref f ∧ H1 = H) I ⟨.ref f, hs, rfl, rfl⟩) fun u s1 ⟨v, H1, I1, r1, q1⟩ => ?_)
  obtain ⟨rfl, rfl⟩ := q1
  cases r1
  have fat : ∀ {pins' σ' H' s'}, Inv X pins' σ' H' s' → PySem.W.FnAt f s'.heap := fun I' => ⟨oc, od, fd', sl, I'.bk _ _ hf⟩
  refine PySem.W.callWith_F (first := []) (fat I1) (thn (ha.run pos pins s1 σ H1 (fun xs H2 => ∃ ys m2 as2, Fr as as2 H1 H2 ∧ SR (gOf X) as2 H2 m2 ∧ RelWs (gOf X) as2 H2 ys xs ∧ ys.length = n ∧ con ys m2 R Z) I1 ?_) fun us s2 ⟨xs, H2, I2, rv, ys, m2, as2, f2, s2r, ry, hl, hc⟩ => ⟨fat I2, ?_⟩) (starEach_plain he) (starEach_any hes)
  · exact ⟨as, d, m, _, Z, sr, rs, h, fun ys m2 xs H2 as2 f2 s2 ry h2 => ⟨ys, m2, as2, f2, s2, ry, h2.1, h2.2⟩, ex⟩
  · exact lam_run FO hps hb hr hx I2 rv s2r (r0.fr f2) ry hl hc (fun w m' v H' as' f3 s3 r3 h3 => ok w m' v H' as' (f2.trans f3) s3 r3 h3) (ex.fr f2)
theorem w_callV0 {x : Str} {i k n : Nat} {F : W} {con : Con} {p : Pos} (LF : LamF X.prog X.w X.K X.mg X.base k F n con) (hr : Room k X.A) (hN : X.N[i]? = some x) (hv : Vis X.env.scope x) (hx : Passes (CX X.prog X.w) X E)
    (hdb : (x == ("__debug__" : Str)) = false) (hcd : (x == ("__classdict__" : Str)) = false) : PE X (.Call (.Name x p) [] [] pos) (tM (gOf X) E (wCallV i F n con wNil)) := by
  obtain ⟨f, c, q, vs, ws, fd, ps, rfl, FO, hps, ⟨oc, od, fd', sl, hf⟩, hb⟩ := LF
  refine ⟨fun pins s σ H Q I ⟨as, d, m, R, Z, sr, rs, ⟨h0, h⟩, ok, ex⟩ => ?_⟩
  obtain ⟨v0, hs, r0⟩ := slot_rel rs h0
  have ev : v0 = .ref f := by cases r0; rfl
  subst ev
  refine wpAny_Call_Name_kw (thn ((pe_var (pos := p) hN hv hdb hcd).run pins s σ H (fun v H1 => v = .ref f ∧ H1 = H) I ⟨.ref f, hs, rfl, rfl⟩) fun u s1 ⟨v, H1, I1, r1, q1⟩ => ?_)
  obtain ⟨rfl, rfl⟩ := q1
  cases r1
  refine PySem.W.callWith_F0 (first := []) ⟨oc, od, fd', sl, I1.bk _ _ hf⟩ ?_
  exact lam_run FO hps hb hr hx I1 (us := []) (xs := []) .nil sr r0 .nil h.1 h.2 ok ex
end
def HFn (P : Program) (w : World) (K : PySem.W.Frag) (mg : Str → Option Value) (kl k : Nat) (x : Str) (nl n : Nat) (C : W → Con → Con) : Prop :=
  ∃ f fd ps ds dvs dw, List.length ps = n + List.length dw ∧ mg x = some (.ref f) ∧ PySem.W.keepIn K (.ref f) = true ∧ Binds K fd ps ds ∧ Vals dvs ds ∧ (∀ as H, RelWs ⟨K, w, mg⟩ as H dw dvs) ∧
    ∀ base, GB K mg base → ∀ F con, LamF P w K mg base kl F nl con → ∃ c0, FnOk P w K mg base (CX P w) k f fd ps (spW ⟨K, w, mg⟩ ps.length c0) ∧ ∀ ws m R Z, C F con ws m R Z → c0 (ws ++ dw) m R Z
def capsOf (d : List (Option W)) : List Nat → Option (List W)
  | [] => some []
  | i :: r => (match getS d i, capsOf d r with
    | some w, some l => some (w :: l)
    | _, _ => none)
theorem caps_rel {g : GE} {as : AS} {H : Hp} {σ : L2.St} {d : List (Option W)} (rs : RelS g as H σ d) : ∀ {fr : List Nat} {ws : List W}, capsOf d fr = some ws →
    ∃ vs, RelWs g as H ws vs ∧ ∀ (k i : Nat) (v : V), fr[k]? = some i → vs[k]? = some v → σ[i]? = some (some v)
  | [], _, h => by cases h; exact ⟨[], .nil, fun k i v e => by simp at e⟩
  | j :: r, _, h => by
    simp only [capsOf] at h
    cases h1 : getS d j with
    | none => simp [h1] at h
    | some w =>
      cases h2 : capsOf d r with
      | none => simp [h1, h2] at h
      | some l =>
        simp only [h1, h2] at h
        cases h
        obtain ⟨vs, q1, q2⟩ := caps_rel rs h2
        obtain ⟨v, e1, e2⟩ := slot_rel rs h1
        refine ⟨v :: vs, .cons e2 q1, fun k i u hk hv => ?_⟩
        cases k with
        | zero =>
          simp at hk hv
          subst hk hv
          exact e1
        | succ k => exact q2 k i u (by simpa using hk) (by simpa using hv)
/-- x(lambda: .., e, ..) -/
def wLam (C : W → Con → Con) (nN : Nat) (fr own : List Nat) (tb : WE) (n : Nat) (t : WA) : WE := fun d m R Z => match capsOf d fr with
  | some ws => t d m (fun ys m1 => ys.length + 1 = n ∧ ∀ F, C F (fun zs m2 R2 Z2 => zs.length = own.length ∧ tb (lamW nN fr ws own zs) m2 R2 Z2) (F :: ys) m1 R Z) Z
  | none => False
theorem sr_extN {g : GE} {as : AS} {H H1 : Hp} {m : Sto} (sr : SR g as H m) (e : LamX.ExtN H H1) (t : LamX.Tabs (tabT g.K) H1) : Fr as as H H1 ∧ SR g as H1 m := by
  have np : ∀ (b : Addr) (u : HO), plO u = true → H b = some u → H1 b = some u := fun b u p q => e b u q fun ps z => by rw [z] at p; cases p
  have f : Fr as as H H1 := ⟨⟨fun _ _ h => h, fun b o _ n q => e b o q n, fun _ h => .inl h⟩, rfl, fun b o hb q => by
    obtain ⟨_, u, q2, p⟩ := sr.hok b hb
    rw [q2] at q; cases q
    exact np b _ p q2⟩
  refine ⟨f, sr.len, sr.nd, fun n a o e1 e2 => ?_, fun b hb => ?_, t⟩
  · have r := sr.ok n a o e1 e2
    exact r.fr f.toFr0 fun u q => np a u (r.pl u q) q
  · obtain ⟨h1, u, q2, p⟩ := sr.hok b hb
    exact ⟨h1, u, np b u p q2, p⟩
theorem code_out {g : GE} {as : AS} {H : Hp} {m : Sto} (sr : SR g as H m) {c : Addr} {q : Str} (h : H c = some (LamX.CodeO c q)) : c ∉ as := fun z => by
  have nope : plO (LamX.CodeO c q) = false := rfl
  rcases z with z | z
  · obtain ⟨n, hn, e⟩ := List.mem_iff_getElem.mp z
    have e1 : as.l[n]? = some c := by rw [List.getElem?_eq_getElem hn, e]
    obtain ⟨o, e2⟩ := sr.get e1
    have := (sr.ok n c o e1 e2).pl _ h
    rw [nope] at this; cases this
  · obtain ⟨_, u, q2, p⟩ := sr.hok c z
    rw [h] at q2; cases q2
    rw [nope] at p; cases p
section
variable {X : Cx} {E : XK} {pos : Pos}
theorem w_lamcall {x : Str} {p lpos : Pos} {kl k nl n : Nat} {C : W → Con → Con} {cc P : Addr} {params : Arguments} {body : Expr} {scope : Scope} {ps : List Str} {fr own : List Nat} {tb : WE} {es : List Expr} {t : WA}
    (G : HFn X.prog X.w X.K X.mg (kl + 1) k x nl n C) (hr : Room k X.A) (hg : Gl X x) (hx : Passes (CX X.prog X.w) X E) (gb : GB X.K X.mg X.base) (TB : LamX.TabB X.base X.mg cc P) (hcode : X.env.code = .ref cc) (hmT : (P, X.env.qual ++ "<lambda>") ∈ tabT X.K)
    (hu : ∀ p ∈ tabT X.K, p.1 = P → p.2 = X.env.qual ++ "<lambda>") (L : LamP X.env.scope scope ps) (hfn : ∀ y, X.fn y = true) (nd : X.N.Nodup) (hown : OwnAt X.N ps own) (hps : ps.length = nl) (hdef : defaultsOf params X.env = ([], []))
    (hbind : ∀ (q : Str) (cl : List (Str × Addr)) (pm cv ctv : Value) (us : List Value), us.length = ps.length → bindArgs (PySem.W.kla_fn "<lambda>" q params body scope cl pm cv ctv) ⟨us, []⟩ = pure (ps.zip us))
    (hbody : ∀ (B : Heap) (A : Around) (outer : List Env) (s1 : Shared) (H1 : Hp) (E : XK) (f c' : Addr), GB X.K X.mg B → Room kl (A.deeper (LamX.lamEnv X scope s1.heap.objs.size f c')) → PE (lamCxN (baseCx X B) A outer s1 H1 E scope f c') body (tM (gOf X) E tb))
    (ha : PA X es (tMA (gOf X) E t)) (hdb : (x == ("__debug__" : Str)) = false) (hes : es.all notStar = true) :
    PE X (.Call (.Name x p) (.Lambda params body scope lpos :: es) [] pos) (tM (gOf X) E (wLam C X.N.length fr own tb n t)) := by
  obtain ⟨g, fd, gs, ds, dvs, dw, hn, hm, hk, hb, hv, hw, hF⟩ := G
  refine ⟨fun pins s σ H Q I ⟨as, d, m, R, Z, sr, rs, h, ok, ex⟩ => ?_⟩
  unfold wLam at h
  cases hc : capsOf d fr with
  | none => rw [hc] at h; exact h.elim
  | some ws =>
    rw [hc] at h
    have has : ∀ y ∈ scope.names, y.2 = .free → ∃ c, X.env.cells.lookup y.1 = some c := fun y hy e => by
      rcases L.free y hy e with q | q
      · exact I.ok.has _ (.inl q)
      · exact I.ok.has _ (.inr q)
    refine wpAny_Call_Name_kw (ld_glob I hg hm ?_ hdb)
    refine PySem.W.callWith_K (h₀ := X.base) I.ok.mod.kin hk ?_ rfl (starEach_any hes)
    show wpAny _ _ (spliced ((false, eval (.Lambda params body scope lpos) X.env) :: backTo pos (starEach es X.env))) _ _ s
    refine Calls.spliced_cons (LamX.lam_make2 I TB hcode hmT hu sr.tabs hdef has fun f c' pm ctv H1 s' I1 eN T1 hf hfN hfr hco => ?_)
    obtain ⟨f1, s1r⟩ := sr_extN sr eN T1
    have oldL : f ≠ X.env.locals := fun z => by
      obtain ⟨mm, ⟨o, es', ep, ho, hd, _⟩, _⟩ := I1.loc
      rw [z, ho] at hf
      have := congrArg Obj.data (Option.some.inj hf)
      rw [hd] at this; cases this
    have oldF : f ∉ X.fs := fun z => by
      rcases I1.ok.stk with e | ⟨e, _⟩
      · rw [e] at hfr; exact hfr z
      · rw [e] at hfr
        apply hfr
        unfold frs
        rw [List.filterMap_cons]
        cases X.env.frame with
        | none => exact z
        | some _ => exact List.mem_cons_of_mem _ z
    have I2 : Inv X ((f, PySem.W.kla_obj "<lambda>" (X.env.qual ++ "<lambda>") params body scope (cloFrom X.env.cells scope.names []) pm c' ctv) :: pins) σ H1 s' :=
      ⟨I1.ok, I1.os, I1.bare, I1.base, I1.loc, I1.cell, I1.free, I1.freeC, fun q hq => by
        rcases List.mem_append.mp hq with z | z
        · exact I1.pin q (List.mem_append_left _ z)
        · rcases List.mem_cons.mp z with z | z
          · subst z
            exact ⟨hf, hfN, oldL, oldF, fun v z => by cases z⟩
          · exact I1.pin q (List.mem_append_right _ z), I1.hok, I1.len⟩
    refine thn (ha.run pos _ s' σ H1 (fun xs H2 => ∃ ys m2 as2, Fr as as2 H H2 ∧ SR (gOf X) as2 H2 m2 ∧ RelWs (gOf X) as2 H2 ys xs ∧ H2 c' = some (LamX.CodeO c' (X.env.qual ++ "<lambda>")) ∧ (ys.length + 1 = n ∧ ∀ F, C F (fun zs m2 R2 Z2 => zs.length = own.length ∧ tb (lamW X.N.length fr ws own zs) m2 R2 Z2) (F :: ys) m2 R Z)) I2 ?_) fun us s2 ⟨xs, H2, I3, rv, ys, m2, as2, f2, s2r, ry, hco2, hl, hC⟩ => ?_
    · refine ⟨as, d, m, _, Z, s1r, rs.fr f1, h, fun ys m2 xs H2 as2 f2 s2 ry h2 => ⟨ys, m2, as2, f1.trans f2, s2, ry, ?_, h2⟩, ex.fr f1⟩
      exact f2.keep _ _ (code_out s1r hco) LamX.codeO_ne hco
    · refine ⟨I3.kIn, ?_⟩
      have I4 : Inv X pins σ H2 s2 := ⟨I3.ok, I3.os, I3.bare, I3.base, I3.loc, I3.cell, I3.free, I3.freeC, fun q hq => I3.pin q (by
          rcases List.mem_append.mp hq with z | z
          · exact List.mem_append_left _ z
          · exact List.mem_append_right _ (List.mem_cons_of_mem _ z)), I3.hok, I3.len⟩
      obtain ⟨hf2, hfN2, _⟩ := I3.pin (f, _) (List.mem_append_right _ List.mem_cons_self)
      obtain ⟨vs, rws, hvs⟩ := caps_rel (rs.fr f2) hc
      have gbB := gb.keeps (big_keeps I4)
      have LF := lam_fnok (fr := fr) (own := own) (vs := vs) (ws := ws) (tb := fun d m R Z => tb d m R Z) I4 L hfn nd hown hf2 hfN2 hfr hvs (fun us hl => hbind _ _ _ _ _ us hl) (fun A outer s1 H1 E hr' => hbody _ A outer s1 H1 E f c' gbB hr')
      have LF2 : LamF X.prog X.w X.K X.mg (bigB s2 H2 X.stack) (kl + 1) (.fnv f c' (X.env.qual ++ "<lambda>") vs ws) nl (fun zs m2 R2 Z2 => zs.length = own.length ∧ tb (lamW X.N.length fr ws own zs) m2 R2 Z2) := by
        obtain ⟨f0, c0, q0, vs0, ws0, fd0, ps0, e0, FO, hp0, hx0, hb0⟩ := LF
        rw [hps] at FO hp0 hb0
        exact ⟨f0, c0, q0, vs0, ws0, fd0, ps0, e0, FO.imp fun zs Hz Qz Ez ⟨as, ys, m, R, Z, h1, h2, h3, h4, h5, h6⟩ => ⟨as, ys, m, R, Z, h1, h2, h3, h4, h5.2, h6⟩, hp0, hx0, hb0⟩
      obtain ⟨c0, FO, hC0⟩ := hF _ gbB _ _ LF2
      have rF : RelW (gOf X) as2 H2 (.fnv f c' (X.env.qual ++ "<lambda>") vs ws) (.ref f) := .fnv (code_out s2r hco2) hco2 rws
      have r2 : Vals (V.ref f :: xs ++ dvs) (Value.ref f :: us ++ ds) := Vals.append (xs := V.ref f :: xs) (us := Value.ref f :: us) (.cons (show RelV (.ref f) (.ref f) from rfl) rv) hv
      have hsp : spW (gOf X) gs.length c0 (V.ref f :: xs ++ dvs) H2 Q E :=
        ⟨as2, _, m2, R, Z, s2r, (RelWs.cons rF ry).append (hw _ _), by rw [List.length_append, List.length_cons, hl, hn], hC0 _ _ _ _ (hC _), fun w m' v H' as' f3 s3 r3 h3 => ok w m' v H' as' (f2.trans f3) s3 r3 h3, ex.fr f2⟩
      have hul : (Value.ref f :: us ++ ds).length = gs.length := by rw [← r2.length]; exact FO.len _ _ _ _ hsp
      refine wpAny_call (codeAny_mono (FO.run X.A X.stack s2 H2 ⟨Value.ref f :: us, []⟩ _ _ Q E hr (big_env0 I4) (hb s2 (Value.ref f :: us) I4.kIn hul) r2 hsp) fun r s3 hq => ?_)
      cases r with
      | error e => exact hx pins σ H2 s2 e s3 I4 hq
      | ok fl =>
        cases fl with
        | ret u => exact I4.after hq
        | next => exact False.elim hq
        | brk => exact False.elim hq
        | cont => exact False.elim hq
end
end FW

namespace FW
open PySem PySem.Spec L2 PyProof.Rows
section
variable {X : Cx} {pins : List (Addr × Obj)} {σ : L2.St} {H H' : Hp} {s : Shared}
/-- many new objects -/
theorem inv_many {h' : Heap} {tk : Nat} (I : Inv X pins σ H s) (k : ∀ b o, s.heap.get? b = some o → h'.get? b = some o) (old : ∀ b, b < s.heap.objs.size → H' b = H b)
    (new : ∀ b u, s.heap.objs.size ≤ b → H' b = some u → ObjOk X.prog X.w H' h' b u) : Inv X pins σ H' { s with heap := h', toks := tk } := by
  have lt : ∀ b u, H b = some u → H' b = some u := fun b u e => by rw [old b (I.hok.lt e)]; exact e
  refine I.un (t' := tk) ⟨fun b o q _ _ _ => k b o q, fun b o q _ _ _ => ⟨o.slots, k b o q⟩, fun b o q n _ => by rw [old b (Heap.lt_size q)]; exact n, fun b o q _ => ⟨o, k b o q⟩, fun b xs q => lt b _ q, fun b o u q => lt b _ q, fun b ps q => ⟨#[], by rw [lt b _ q]; simp⟩⟩ fun b u e => ?_
  by_cases hb : b < s.heap.objs.size
  · rw [old b hb] at e
    exact (I.hok b u e).stay (fun c v _ q => k c v q) (fun c q => lt c _ q) fun c xs q => lt c _ q
  · exact new b u (Nat.le_of_not_lt hb) e
end
def tSortSet (K : PySem.W.Frag) (ta : TE) : TE := fun σ H Q => ta σ H fun x H1 => ∃ l, ∃ xs : List Int, x = .ref l ∧ SqL K H1 l (xs.map V.int) ∧ xs.length + 1 < scanBound ∧
  ∀ (ns : List Int) (p : Addr), ns.Pairwise (· < ·) → (∀ k, k ∈ ns ↔ k ∈ xs) → H1 p = none → Q (.ref p) (upd H1 p (.lst (ns.map V.int)))
section
variable {X : Cx} {E : XK} {pos : Pos}
theorem nd_le : ∀ (ns xs : List Int), ns.Nodup → (∀ k ∈ ns, k ∈ xs) → ns.length ≤ xs.length
  | [], _, _, _ => Nat.zero_le _
  | a :: r, xs, nd, h => by
    obtain ⟨h1, h2⟩ := List.nodup_cons.mp nd
    have ha : a ∈ xs := h a List.mem_cons_self
    have ih := nd_le r (xs.erase a) h2 fun k hk => (List.mem_erase_of_ne (fun (e : k = a) => h1 (by rw [← e]; exact hk))).mpr (h k (List.mem_cons_of_mem _ hk))
    rw [List.length_erase_of_mem ha] at ih
    have : 0 < xs.length := List.length_pos_of_mem ha
    simp only [List.length_cons]
    omega
theorem Inv.anyDrawn {X : Cx} {pins : List (Addr × Obj)} {σ : L2.St} {H : Hp} {s : Shared} (I : Inv X pins σ H s) (d : Drawn) : Inv X pins σ H { s with drawn := d } :=
  ⟨I.ok, I.os, I.bare, I.base, I.loc, I.cell, I.free, I.freeC, I.pin, I.hok, I.len⟩
theorem boot_sorted' : bootBuiltins (Str.ofString "sorted") = some (.builtin "sorted") := by decide +kernel
theorem pw_nodup_le {xs ns : List Int} (h : ns.Pairwise (· < ·)) (hm : ∀ k, k ∈ ns ↔ k ∈ xs) : ns.length ≤ xs.length := by
  have nd : ns.Nodup := h.imp fun {a b} hab => by omega
  exact nd_le ns xs nd fun k hk => (hm k).mp hk
theorem pe_sortSet {a : Expr} {ta : TE} {p p2 q : Pos} (hc : X.calm = true) (hg : Gl X "sorted") (hm : X.mg "sorted" = none) (hg2 : Gl X "set") (hm2 : X.mg "set" = none) (ha : PE X a ta) (na : notStar a = true) :
    PE X (.Call (.Name "sorted" p) [.Call (.Name "set" p2) [a] [] q] [] pos) (tSortSet X.K ta) := by
  have na := starEach_plain (es := []) (env := X.env) na
  refine ⟨fun pins s σ H Q I h => Call_ (ld_blt I hg hm boot_sorted' ?_)⟩
  refine callWith_builtin1 (args_cons (Call_ (ld_blt I hg2 hm2 boot_set ?_)) rfl) rfl rfl
  refine callWith_type1 (args_cons (thn (ha.run pins s σ H _ I h) fun v s1 ⟨x, H1, I1, r1, l, xs, e, hq, hb, q1⟩ => args_nil ?_) na) na rfl
  subst e
  cases r1
  obtain ⟨its, r, pl, _⟩ := I1.list hq
  refine call_set_ints (I1.ok.hd hc) pl.isList (by simpa using r.ints) hb fun hp tk c R1 _ kp => args_nil ?_
  have I2 : Inv X pins σ H1 { s1 with heap := hp, toks := tk } := I1.kept fun b o e => kp b o (Heap.lt_size e) e
  refine sorted_setN (sh := { s1 with heap := hp, toks := tk }) R1 (I1.ok.hd hc) fun st pp out c2 ns k2 eg eo hle hobj hi hpw hmem => ?_
  obtain ⟨h', g', d', tk', os'⟩ := st
  have eg : g' = s1.gens := eg
  have eo : os' = s1.os := eo
  subst eg eo
  have hmem2 : ∀ k, k ∈ ns ↔ k ∈ xs := fun k => by rw [hmem k]; simp
  have hlen : (ns.map V.int).length ≤ sizeLine := by
    have := pw_nodup_le hpw hmem2
    have sb : scanBound = 4096 := rfl
    rw [List.length_map]
    unfold sizeLine
    omega
  have hfr : H1 pp = none := I2.hok.fresh hle
  refine ⟨.ref pp, upd H1 pp (.lst (ns.map V.int)), ?_, rfl, q1 ns pp hpw hmem2 hfr⟩
  have I3 := I2.laid (h' := h') (t' := tk') (a := pp) (o := .lst (ns.map V.int)) k2 hle ⟨hlen, out.toList, c2, vals_of_ints hi, by simpa using hobj⟩
  exact Inv.anyDrawn I3 d'
def wSortSet (a : WE) : WE := fun d m R Z => a d m (fun x m1 => match lintOf m1 x with
  | some xs => xs.length ≤ 4000 ∧ ∀ ns : List Int, ns.Pairwise (· < ·) → (∀ k, k ∈ ns ↔ k ∈ xs) → R (.lst (ns.map W.int)) m1
  | none => False) Z
theorem ints_relW {g : GE} {as : AS} {H : Hp} : ∀ ns : List Int, RelWs g as H (ns.map W.int) (ns.map V.int)
  | [] => .nil
  | i :: r => .cons (.int i) (ints_relW r)
theorem w_sortSet {a : Expr} {ta : WE} {p p2 q : Pos} (hc : X.calm = true) (hg : Gl X "sorted") (hm : X.mg "sorted" = none) (hg2 : Gl X "set") (hm2 : X.mg "set" = none) (ha : PE X a (tM (gOf X) E ta)) (na : notStar a = true) :
    PE X (.Call (.Name "sorted" p) [.Call (.Name "set" p2) [a] [] q] [] pos) (tM (gOf X) E (wSortSet ta)) :=
  PE_mono (pe_sortSet hc hg hm hg2 hm2 ha na) fun σ H Q ⟨as, d, m, R, Z, sr, rs, h, ok, ex⟩ => by
    refine ⟨as, d, m, _, Z, sr, rs, h, fun w m1 v H1 as1 f1 s1 r1 h1 => ?_, ex⟩
    cases e : lintOf m1 w with
    | none => rw [e] at h1; exact h1.elim
    | some xs =>
      rw [e] at h1
      obtain ⟨a', rfl, h2⟩ := lint_rel s1 r1 e
      have sb : scanBound = 4096 := rfl
      exact ⟨a', xs, rfl, h2, by omega, fun ns pp h3 h4 h5 => new_lst s1 (ints_relW ns) (fun w m' v H' as' f s r q => ok w m' v H' as' (f1.trans f) s r q) (h1.2 ns h3 h4) h5⟩
def fDivmod : WF := fun ws m R => match ws with
  | [.int i, .int j] => 0 < j ∧ j < 1073741824 ∧ R (.tup [.int (i / j), .int (i % j)]) m
  | _ => False
theorem cw_divmod : CallW X (.builtin "divmod") fDivmod := by
  intro pins s σ H xs us Q I r ⟨as, ws, m, R, sr, rs, q, ok⟩
  unfold fDivmod at q
  split at q
  · obtain ⟨v1, v2, rfl, r1, r2⟩ := rs.two
    rw [relInt r1, relInt r2] at r
    exact call_divmodF pins s σ H _ us Q I r ⟨_, _, rfl, ⟨q.1, q.2.1⟩, new_tup sr (.cons (.int _) (.cons (.int _) .nil)) ok q.2.2⟩
  · exact q.elim
def zipP : List W → List W → List W
  | x :: xs, y :: ys => .tpu [x, y] :: zipP xs ys
  | _, _ => []
def zipT : List W → List W → List W
  | x :: xs, y :: ys => .tup [x, y] :: zipT xs ys
  | _, _ => []
theorem zipP_get : ∀ {xs ys : List W} {i : Nat} {w : W}, (zipP xs ys)[i]? = some w → ∃ x y, xs[i]? = some x ∧ ys[i]? = some y ∧ w = .tpu [x, y]
  | [], _, i, w, e => by simp [zipP] at e
  | _ :: _, [], i, w, e => by simp [zipP] at e
  | x :: xs, y :: ys, 0, w, e => by simp [zipP] at e; exact ⟨x, y, rfl, rfl, e.symm⟩
  | x :: xs, y :: ys, i + 1, w, e => by
    obtain ⟨a, b, h1, h2, h3⟩ := zipP_get (xs := xs) (ys := ys) (i := i) (w := w) (by simpa [zipP] using e)
    exact ⟨a, b, by simpa using h1, by simpa using h2, h3⟩
theorem zipP_len : ∀ (xs ys : List W), (zipP xs ys).length = min xs.length ys.length
  | [], _ => by simp [zipP]
  | _ :: _, [] => by simp [zipP]
  | x :: xs, y :: ys => by simp [zipP, zipP_len xs ys]
def wZip (t : WA) : WI := fun d m Q Z => t d m (fun ws m1 => match ws with
  | [w1, w2] => (match lstOf m1 w1, lstOf m1 w2 with
    | some l1, some l2 => Q (zipP l1 l2) (fun m2 => lstOf m2 w1 = some l1 ∧ lstOf m2 w2 = some l2) m1
    | _, _ => False)
  | _ => False) Z
theorem itr_zip {g : GE} {as : AS} {H : Hp} {w1 w2 : W} {a b : Addr} {l1 l2 : List W} (r1 : RelW g as H w1 (.ref a)) (r2 : RelW g as H w2 (.ref b)) :
    ItR g (Itz g.K a b) as H (zipP l1 l2) (fun m2 => lstOf m2 w1 = some l1 ∧ lstOf m2 w2 = some l2) := by
  refine ⟨fun i w as1 H1 m f sr st e => ?_, fun as1 H1 m f sr st => ?_⟩
  · obtain ⟨x, y, e1, e2, rfl⟩ := zipP_get e
    obtain ⟨a', vs, q1, q2, q3⟩ := relL sr (r1.fr0 f) st.1
    cases q1
    obtain ⟨b', us, p1, p2, p3⟩ := relL sr (r2.fr0 f) st.2
    cases p1
    obtain ⟨vx, ex, rx⟩ := q3.get e1
    obtain ⟨vy, ey, ry⟩ := p3.get e2
    refine ⟨⟨vs, us, vx, vy, q2, p2, ex, ey⟩, fun v H' hy => ?_⟩
    obtain ⟨T, x', y', rfl, hT, rfl, h1, h2⟩ := hy
    have e3 := h1 vs q2
    rw [ex] at e3; cases e3
    have e4 := h2 us p2
    rw [ey] at e4; cases e4
    exact ⟨Fr.new hT, sr.new hT, .tpu (sr.out hT) upd_same (.cons (rx.fr (Fr.new hT)) (.cons (ry.fr (Fr.new hT)) .nil))⟩
  · obtain ⟨a', vs, q1, q2, q3⟩ := relL sr (r1.fr0 f) st.1
    cases q1
    obtain ⟨b', us, p1, p2, p3⟩ := relL sr (r2.fr0 f) st.2
    cases p1
    refine ⟨vs, us, q2, p2, ?_⟩
    rw [zipP_len, q3.length, p3.length]
    omega
theorem i_zip {a b : Expr} {ta : WA} {p tpos : Pos} {elts : List Expr} {kk : Nat} (hg : Gl X "zip") (hm : X.mg "zip" = none) (ha : PA X [a, b] (tMA (gOf X) E ta)) (hs : notStar a = true) (hs2 : notStar b = true) :
    PI X (.Tuple elts kk tpos) (.Call (.Name "zip" p) [a, b] [] pos) (tMI (gOf X) E (wZip ta)) :=
  PI_mono (pi_zip hg hm ha (starEach_plain hs) (by rw [starEach_plain hs2]; rfl)) fun σ H R ⟨as, d, m, Q, Z, sr, rs, h, ok, ex⟩ => by
    refine ⟨as, d, m, _, Z, sr, rs, h, fun ws m1 vs H1 as1 f1 s1 r1 h1 => ?_, ex⟩
    split at h1
    · rename_i w1 w2
      obtain ⟨v1, v2, rfl, q1, q2⟩ := r1.two
      cases e1 : lstOf m1 w1 with
      | none => simp [e1] at h1
      | some l1 =>
        cases e2 : lstOf m1 w2 with
        | none => simp [e1, e2] at h1
        | some l2 =>
          simp only [e1, e2] at h1
          obtain ⟨a', xs, rfl, k1, k2⟩ := relL s1 q1 e1
          obtain ⟨b', ys, rfl, j1, j2⟩ := relL s1 q2 e2
          exact ⟨a', b', xs, ys, rfl, k1, j1, ok _ _ m1 _ H1 as1 f1 s1 (itr_zip q1 q2) h1⟩
    · exact h1.elim
def tListZip (K : PySem.W.Frag) (ta : TA) : TE := fun σ H Q => ta σ H fun vs H1 => ∃ a b xs ys, vs = [.ref a, .ref b] ∧ SqL K H1 a xs ∧ SqL K H1 b ys ∧
  ∀ (S : Addr) (ts : List Addr) (H2 : Hp), H1 S = none → H2 S = some (.lst (ts.map V.ref)) → ts.length = min xs.length ys.length → (∀ b u, H1 b = some u → H2 b = some u) →
    (∀ (j : Nat) (t : Addr), ts[j]? = some t → H1 t = none ∧ t ≠ S ∧ ∃ x y, xs[j]? = some x ∧ ys[j]? = some y ∧ ∃ o, H2 t = some (.frz o (.tup [x, y])) ∧ o.dict = none) → Q (.ref S) H2
theorem lookup_at {α : Type} : ∀ {ts : List Addr} {ps : List α} {j : Nat} {t : Addr} {p : α}, ts.Nodup → ts[j]? = some t → ps[j]? = some p → (ts.zip ps).lookup t = some p
  | [], _, _, _, _, _, e, _ => by simp at e
  | _ :: _, [], _, _, _, _, _, e => by simp at e
  | a :: ts, q :: ps, 0, t, p, nd, e1, e2 => by
    simp at e1 e2
    subst e1 e2
    simp [List.lookup]
  | a :: ts, q :: ps, j + 1, t, p, nd, e1, e2 => by
    obtain ⟨h1, h2⟩ := List.nodup_cons.mp nd
    have hne : (t == a) = false := beq_eq_false_iff_ne.mpr fun e => h1 (by rw [← e]; exact List.mem_of_getElem? (by simpa using e1))
    rw [List.zip_cons_cons, List.lookup_cons, hne]
    exact lookup_at h2 (by simpa using e1) (by simpa using e2)
theorem lookup_of {α : Type} : ∀ {ts : List Addr} {ps : List α} {t : Addr} {p : α}, (ts.zip ps).lookup t = some p → ∃ j : Nat, ts[j]? = some t ∧ ps[j]? = some p
  | [], _, _, _, e => by simp at e
  | _ :: _, [], _, _, e => by simp at e
  | a :: ts, q :: ps, t, p, e => by
    rw [List.zip_cons_cons, List.lookup_cons] at e
    cases hb : t == a with
    | true =>
      rw [hb] at e
      have e' : some q = some p := e
      cases e'
      exact ⟨0, by simp [beq_iff_eq.mp hb], rfl⟩
    | false =>
      rw [hb] at e
      obtain ⟨j, h1, h2⟩ := lookup_of (ts := ts) (ps := ps) e
      exact ⟨j + 1, by simpa using h1, by simpa using h2⟩
def zipHp (h : Heap) (H : Hp) (S : Addr) (ts : List Addr) (ps : List (V × V)) : Hp := fun b => if b = S then some (.lst (ts.map V.ref)) else match (ts.zip ps).lookup b with
  | some p => (match h.get? b with
    | some o => some (.frz o (.tup [p.1, p.2]))
    | none => some (.tup [p.1, p.2]))
  | none => H b
theorem vals_refs : ∀ ts : List Addr, Vals (ts.map V.ref) (ts.map Value.ref)
  | [] => .nil
  | t :: r => .cons (show RelV (.ref t) (.ref t) from rfl) (vals_refs r)
theorem pe_listZip {a b : Expr} {ta : TA} {p p2 q : Pos} (hc : X.calm = true) (hg : Gl X "list") (hm : X.mg "list" = none) (hg2 : Gl X "zip") (hm2 : X.mg "zip" = none) (ha : PA X [a, b] ta) (na : notStar a = true) (nb : notStar b = true) :
    PE X (.Call (.Name "list" p) [.Call (.Name "zip" p2) [a, b] [] q] [] pos) (tListZip X.K ta) := by
  refine ⟨fun pins s σ H Q I h => Call_ (ld_blt I hg hm (by decide +kernel : bootBuiltins (Str.ofString "list") = some (.type "list")) ?_)⟩
  refine callWith_type1 (args_cons (Call_ (ld_blt I hg2 hm2 PyProof.Rows.boot_zip ?_)) rfl) rfl rfl
  refine callWith_type1 (thn (ha.run q pins s σ H _ I h) fun us s1 ⟨vs, H1, I1, r1, a', b', xs, ys, e, hqa, hqb, q1⟩ => ?_) (starEach_plain na) (by rw [starEach_plain nb]; rfl)
  subst e
  cases r1 with
  | cons ra r1 =>
    cases r1 with
    | cons rb r1 =>
      cases r1
      cases ra
      cases rb
      obtain ⟨its, r, pl, hz⟩ := I1.list hqa
      obtain ⟨its2, r2, pl2, _⟩ := I1.list hqb
      have la : a' < s1.heap.objs.size := by obtain ⟨o, e, _⟩ := pl.isList; exact Heap.lt_size e
      have lb : b' < s1.heap.objs.size := by obtain ⟨o, e, _⟩ := pl2.isList; exact Heap.lt_size e
      refine call_zip_2 pl.isList pl2.isList fun h1 z1 z2 z3 z4 z5 zsz zk => args_nil ?_
      refine call_list_zip0 (N := s1.heap.objs.size) (sh := { s1 with heap := h1 }) (I1.ok.hd hc) la lb (pl.isList.at fun o e => zk _ o e) (pl2.isList.at fun o e => zk _ o e) (by rw [List.size_toArray, ← r.length]; exact hz) z1 z2 z3 z4 z5 zsz fun h' tk acc ts c t1 t2 t3 t4 t5 t6 t7 => ?_
      have kp : ∀ b o, s1.heap.get? b = some o → h'.get? b = some o := fun b o e => t7 b o (Heap.lt_size e) (zk b o e)
      have len : ts.length = min xs.length ys.length := by rw [t1, List.size_toArray, List.size_toArray, r.length, r2.length]
      have old : ∀ b, b < s1.heap.objs.size → zipHp h' H1 (s1.heap.objs.size + 5 : Nat) ts (xs.zip ys) b = H1 b := fun b hb => by
        unfold zipHp
        rw [if_neg (fun e => by have e' : (b : Nat) = s1.heap.objs.size + 5 := e; have hb' : (b : Nat) < s1.heap.objs.size := hb; omega)]
        cases e : (ts.zip (xs.zip ys)).lookup b with
        | none => rfl
        | some p =>
          obtain ⟨j, e1, _⟩ := lookup_of e
          have h1 : (s1.heap.objs.size + 6 : Nat) ≤ b := t4 b (List.mem_of_getElem? e1)
          have h2 : (b : Nat) < s1.heap.objs.size := hb
          omega
      have atS : zipHp h' H1 (s1.heap.objs.size + 5 : Nat) ts (xs.zip ys) (s1.heap.objs.size + 5 : Nat) = some (.lst (ts.map V.ref)) := by unfold zipHp; rw [if_pos rfl]
      have neS : ∀ t ∈ ts, t ≠ (s1.heap.objs.size + 5 : Nat) := fun t ht e => by
        have h1 : (s1.heap.objs.size + 6 : Nat) ≤ t := t4 t ht
        rw [e] at h1
        exact absurd h1 (by omega)
      have pairs : ∀ (j : Nat) (t : Addr), ts[j]? = some t → ∃ x y, xs[j]? = some x ∧ ys[j]? = some y ∧ ∃ u v, zipHp h' H1 (s1.heap.objs.size + 5 : Nat) ts (xs.zip ys) t = some (.frz (PairO u v) (.tup [x, y])) ∧ RelV x u ∧ RelV y v ∧ h'.get? t = some (PairO u v) := fun j t e => by
        obtain ⟨u, v, e1, e2, e3⟩ := t5 j t e
        have hj : j < min xs.length ys.length := by rw [← len]; exact (List.getElem?_eq_some_iff.mp e).1
        have hx : j < xs.length := by omega
        have hy : j < ys.length := by omega
        obtain ⟨u', g1, g2⟩ := r.get (List.getElem?_eq_getElem hx)
        obtain ⟨v', g3, g4⟩ := r2.get (List.getElem?_eq_getElem hy)
        have eu : u' = u := by
          have : its.toArray[j]? = some u' := by simpa using g1
          rw [e1] at this; exact (Option.some.inj this).symm
        have ev : v' = v := by
          have : its2.toArray[j]? = some v' := by simpa using g3
          rw [e2] at this; exact (Option.some.inj this).symm
        subst eu ev
        refine ⟨_, _, List.getElem?_eq_getElem hx, List.getElem?_eq_getElem hy, _, _, ?_, g2, g4, e3⟩
        unfold zipHp
        rw [if_neg (neS t (List.mem_of_getElem? e)), lookup_at (p := (xs[j], ys[j])) t3 e (by rw [List.getElem?_eq_some_iff]; exact ⟨by rw [List.length_zip]; exact hj, by simp⟩)]
        simp only [e3]
      have J : Inv X pins σ (zipHp h' H1 (s1.heap.objs.size + 5 : Nat) ts (xs.zip ys)) { s1 with heap := h', toks := tk } := by
        refine inv_many I1 kp old fun b u hb e => ?_
        by_cases hS : b = (s1.heap.objs.size + 5 : Nat)
        · subst hS
          rw [atS] at e
          cases e
          refine ⟨?_, acc.toList, c, by rw [t2]; exact vals_refs ts, by simpa using t6⟩
          rw [List.length_map, len]
          omega
        · unfold zipHp at e
          rw [if_neg hS] at e
          cases el : (ts.zip (xs.zip ys)).lookup b with
          | none =>
            rw [el] at e
            have := I1.hok.fresh hb
            have e' : H1 b = some u := e
            rw [this] at e'; cases e'
          | some pr =>
            rw [el] at e
            obtain ⟨j, e1, e2⟩ := lookup_of el
            obtain ⟨x, y, g1, g2, u', v', g3, g4, g5, g6⟩ := pairs j b e1
            simp only [g6] at e
            cases e
            have ep : pr = (x, y) := by
              rw [List.getElem?_eq_some_iff] at e2
              obtain ⟨_, e2⟩ := e2
              rw [List.getElem_zip] at e2
              rw [← e2]
              obtain ⟨_, g1⟩ := List.getElem?_eq_some_iff.mp g1
              obtain ⟨_, g2⟩ := List.getElem?_eq_some_iff.mp g2
              rw [g1, g2]
            subst ep
            exact ⟨g6, by show 2 ≤ sizeLine; decide, [u', v'], .cons g4 (.cons g5 .nil), ⟨_, g6, rfl, _, rfl⟩⟩
      refine ⟨.ref (s1.heap.objs.size + 5 : Nat), _, J, rfl, q1 _ ts _ (I1.hok.fresh (by show (s1.heap.objs.size : Nat) ≤ s1.heap.objs.size + 5; omega)) atS len (fun b u e => by rw [old b (I1.hok.lt e)]; exact e) fun j t e => ?_⟩
      obtain ⟨x, y, g1, g2, u', v', g3, _⟩ := pairs j t e
      have ht := t4 t (List.mem_of_getElem? e)
      exact ⟨I1.hok.fresh (Nat.le_trans (by show (s1.heap.objs.size : Nat) ≤ s1.heap.objs.size + 6; omega) ht), neS t (List.mem_of_getElem? e), x, y, g1, g2, _, g3, rfl⟩
def wListZip (t : WA) : WE := fun d m R Z => t d m (fun ws m1 => match ws with
  | [w1, w2] => (match lstOf m1 w1, lstOf m1 w2 with
    | some l1, some l2 => R (.lst (zipT l1 l2)) m1
    | _, _ => False)
  | _ => False) Z
theorem zip_rels {g : GE} {as : AS} {H2 : Hp} : ∀ {l1 l2 : List W} {xs ys : List V} {ts : List Addr}, RelWs g as H2 l1 xs → RelWs g as H2 l2 ys → ts.length = min xs.length ys.length →
    (∀ (j : Nat) (t : Addr), ts[j]? = some t → t ∉ as ∧ ∃ x y, xs[j]? = some x ∧ ys[j]? = some y ∧ ∃ o, H2 t = some (.frz o (.tup [x, y])) ∧ o.dict = none) → RelWs g as H2 (zipT l1 l2) (ts.map V.ref)
  | _, _, _, _, ts, .nil, _, hl, _ => by
    have : ts = [] := List.eq_nil_of_length_eq_zero (by simpa using hl)
    subst this
    exact .nil
  | _, _, _, _, ts, .cons _ _, .nil, hl, _ => by
    have : ts = [] := List.eq_nil_of_length_eq_zero (by simpa using hl)
    subst this
    exact .nil
  | _, _, _, _, ts, .cons (ws := l1) (vs := xs) a r1, .cons (ws := l2) (vs := ys) b r2, hl, h => by
    cases ts with
    | nil => simp at hl
    | cons t ts =>
      obtain ⟨h0, x, y, e1, e2, o, e3, e4⟩ := h 0 t rfl
      simp at e1 e2
      subst e1 e2
      refine .cons (.tup h0 e3 e4 (.cons a (.cons b .nil))) (zip_rels r1 r2 (by simp at hl; omega) fun j t' e => ?_)
      obtain ⟨g0, x, y, g1, g2, g3⟩ := h (j + 1) t' (by simpa using e)
      exact ⟨g0, x, y, by simpa using g1, by simpa using g2, g3⟩
theorem w_listZip {a b : Expr} {ta : WA} {p p2 q : Pos} (hc : X.calm = true) (hg : Gl X "list") (hm : X.mg "list" = none) (hg2 : Gl X "zip") (hm2 : X.mg "zip" = none) (ha : PA X [a, b] (tMA (gOf X) E ta)) (na : notStar a = true) (nb : notStar b = true) :
    PE X (.Call (.Name "list" p) [.Call (.Name "zip" p2) [a, b] [] q] [] pos) (tM (gOf X) E (wListZip ta)) :=
  PE_mono (pe_listZip hc hg hm hg2 hm2 ha na nb) fun σ H Q ⟨as, d, m, R, Z, sr, rs, h, ok, ex⟩ => by
    refine ⟨as, d, m, _, Z, sr, rs, h, fun ws m1 vs H1 as1 f1 s1 r1 h1 => ?_, ex⟩
    split at h1
    · rename_i w1 w2
      obtain ⟨v1, v2, rfl, q1, q2⟩ := r1.two
      cases e1 : lstOf m1 w1 with
      | none => simp [e1] at h1
      | some l1 =>
        cases e2 : lstOf m1 w2 with
        | none => simp [e1, e2] at h1
        | some l2 =>
          simp only [e1, e2] at h1
          obtain ⟨a', xs, rfl, k1, k2⟩ := relL s1 q1 e1
          obtain ⟨b', ys, rfl, j1, j2⟩ := relL s1 q2 e2
          refine ⟨a', b', xs, ys, rfl, k1, j1, fun S ts H2 hS hS2 hl hk hp => ?_⟩
          have f2 : Fr as1 as1 H1 H2 := Fr.same hk
          refine ok _ m1 _ H2 as1 (f1.trans f2) (s1.same hk) (.lst (s1.out hS) hS2 (zip_rels (k2.fr f2) (j2.fr f2) hl fun j t e => ?_)) h1
          obtain ⟨g1, g2, x, y, g3⟩ := hp j t e
          exact ⟨s1.out g1, x, y, g3⟩
    · exact h1.elim
end
end FW

namespace FW
open PySem PySem.Spec L2 PyProof.Rows
theorem adjust_rev (n : Nat) : Builtin.Slice.sliceAdjust none none (-1) (n : Int) = ((n : Int) - 1, -1) := rfl
theorem places_rev (n : Nat) : Builtin.Slice.slicePlaces ((n : Int) - 1) (-1) (-1) = n := by
  unfold Builtin.Slice.slicePlaces
  rw [if_neg (show ¬ ((-1 : Int) > 0) by decide)]
  by_cases h : (n : Int) - 1 > -1
  · rw [if_pos h, show (- -1 : Int) = 1 by decide, Int.ediv_one]; omega
  · rw [if_neg h]; omega
theorem fm_congr {α β : Type} {f g : α → Option β} : ∀ {l : List α}, (∀ x ∈ l, f x = g x) → l.filterMap f = l.filterMap g
  | [], _ => rfl
  | a :: r, h => by rw [List.filterMap_cons, List.filterMap_cons, h a (by simp), fm_congr fun x hx => h x (by simp [hx])]
theorem pick_rev (xs : List Value) : ((List.range xs.length).filterMap fun (m : Nat) => xs.toArray[((xs.length : Int) - 1 + (m : Int) * -1).toNat]?) = xs.reverse := by
  have e : ∀ m ∈ List.range xs.length, xs.toArray[((xs.length : Int) - 1 + (m : Int) * -1).toNat]? = xs.reverse[m]? := fun m hm => by
    have hm' := List.mem_range.mp hm
    rw [List.getElem?_reverse hm', show ((xs.length : Int) - 1 + (m : Int) * -1).toNat = xs.length - 1 - m by omega]
    simp
  have e2 : (List.range xs.length).filterMap (fun (m : Nat) => xs.toArray[((xs.length : Int) - 1 + (m : Int) * -1).toNat]?) = (List.range xs.reverse.length).filterMap (fun m => xs.reverse[m]?) := by
    rw [List.length_reverse]
    exact fm_congr e
  rw [e2]
  generalize xs.reverse = ys
  apply List.ext_getElem?
  intro i
  have : (List.range ys.length).filterMap (fun m => ys[m]?) = ys := by
    have h1 : ∀ m ∈ List.range ys.length, ys[m]? = some (ys[m]?.getD .none) := fun m hm => by
      have := List.mem_range.mp hm
      rw [List.getElem?_eq_getElem this]; rfl
    rw [fm_congr h1]
    apply List.ext_getElem?
    intro j
    by_cases hj : j < ys.length
    · rw [List.filterMap_eq_map', List.getElem?_map, List.getElem?_range hj, List.getElem?_eq_getElem hj]
      simp [List.getElem?_eq_getElem hj]
    · rw [List.getElem?_eq_none (by simp; omega), List.getElem?_eq_none (by omega)]
  rw [this]
section
variable {prog : Program} {w : World} {A : Around} {E : Value → Shared → Prop} {s : Shared}
theorem applied_rev {sl : Addr} {vl vu vs : Value} {n : Nat} {Q : Int × Int × Nat → Shared → Prop} (hs : s.heap.IsSliceOf sl vl vu vs) (pl : IsPart vl none) (pu : IsPart vu none) (ps : IsPart vs (some (-1)))
    (h : Q ((n : Int) - 1, -1, n) s) : wpAny (model prog w) A (Builtin.Slice.sliceApplied (.ref sl) (pure (n : Int))) Q E s := by
  obtain ⟨os, hos, hcs, hds⟩ := hs
  unfold Builtin.Slice.sliceApplied Builtin.Slice.sliceFields
  refine wpAny_bind (wpAny_bind (wpAny_field hos hds (x := vl) rfl (wpAny_bind (wpAny_field hos hds (x := vu) rfl (wpAny_bind (wpAny_field hos hds (x := vs) rfl (wpAny_pure ?_)))))))
  refine wpAny_bind (HT.slicePart_ ps ?_)
  show wpAny _ _ (if ((-1 : Int) == 0) = true then _ else _) _ _ s
  rw [if_neg (show ¬ (((-1 : Int) == 0) = true) by decide)]
  refine wpAny_bind (HT.slicePart_ pl (wpAny_bind (HT.slicePart_ pu (wpAny_bind (wpAny_pure ?_)))))
  show wpAny _ _ (match Builtin.Slice.sliceAdjust none none (-1) (n : Int) with | (a, b) => pure (a, (-1 : Int), Builtin.Slice.slicePlaces a b (-1))) _ _ s
  rw [adjust_rev]
  show wpAny _ _ (pure ((n : Int) - 1, (-1 : Int), Builtin.Slice.slicePlaces ((n : Int) - 1) (-1) (-1))) _ _ s
  rw [places_rev]
  exact wpAny_pure h
theorem getItem_rev {t sl : Addr} {its : List Value} {vl vu vs : Value} {Q : Value → Shared → Prop} (ht : IsTup s.heap t its.toArray) (hs : s.heap.IsSliceOf sl vl vu vs) (pl : IsPart vl none) (pu : IsPart vu none) (ps : IsPart vs (some (-1)))
    (hsz : its.length ≤ sizeLine) (h : Q (.ref s.heap.objs.size) { s with heap := s.heap.push { cls := .type "tuple", data := .seq its.reverse.toArray } }) : wpAny (model prog w) A (getItem (.ref t) (.ref sl)) Q E s := by
  have hok : sizeOk (.seq its.reverse.toArray) := by
    show its.reverse.toArray.size ≤ sizeLine
    rw [List.size_toArray, List.length_reverse]; exact hsz
  have hTs : s.TypeIs (.ref sl) "slice" := by
    obtain ⟨os, hos, hcs, _⟩ := id hs
    exact ⟨os, hos, hcs⟩
  unfold getItem
  try with_reducible refine wpAny_holding ?_
  first | refine wpAny_bind (wpAny_pure ?_) | skip
  refine wpAny_bind (wpAny_sequenceKey ht.typeIs (by decide) ?_)
  refine wpAny_bind (wpAny_callSpecial?_slot (name := Str.ofString "__getitem__") ht.typeIs slot_tuple_getitem (wpAny_call_entry slot_tuple_getitem ht.typeIs entry_tuple_getitem ?_ (args_tuple_getitem _ _)))
  show wpAny _ _ (Builtin.Tuple.tupleItemsOf (.ref t) >>= _) _ _ s
  refine wpAny_bind (tupleItemsOf_ ht (wpAny_bind (wpAny_typeOf hTs ?_)))
  rw [if_pos (by decide)]
  rw [show (its.toArray.size : Int) = (its.length : Int) by simp]
  refine wpAny_bind (applied_rev hs pl pu ps ?_)
  have hno : ¬ (((its.length : Int) - 1 == 0 && (-1 : Int) == 1 && its.length == its.toArray.size) = true) := by
    intro q
    rw [Bool.and_eq_true, Bool.and_eq_true] at q
    have : (-1 : Int) = 1 := eq_of_beq q.1.2
    omega
  show wpAny _ _ (if ((its.length : Int) - 1 == 0 && (-1 : Int) == 1 && its.length == its.toArray.size) = true then _ else _) _ _ s
  rw [if_neg hno, pick_rev]
  first
    | exact wpAny_bind (m := Builtin.Tuple.tupleExact _) (wpAny_newObj_type (wpAny_pure ⟨_, rfl, wpAny_pure h⟩) hok)
    | exact wpAny_bind (m := Builtin.Tuple.tupleExact _) (wpAny_newObj_type (wpAny_bind (wpAny_pure (wpAny_pure ⟨_, rfl, wpAny_pure h⟩))) hok)
    | exact wpAny_bind (wpAny_bind (m := Builtin.Tuple.tupleExact _) (wpAny_newObj_type (wpAny_pure (wpAny_pure ⟨_, rfl, wpAny_pure h⟩)) hok))
    | exact wpAny_bind (wpAny_bind (m := Builtin.Tuple.tupleExact _) (wpAny_newObj_type (wpAny_pure ⟨_, rfl, wpAny_pure h⟩) hok))
end
section
variable {X : Cx}
theorem count_eqU {x : V} : ∀ {xs : List V} {us : List Value}, Vals xs us → xs.all flatV = true → us.countP (eqU x) = xs.countP fun y => eqV y x
  | _, _, .nil, _ => rfl
  | y :: xs, u :: us, .cons r t, f => by
    rw [List.all_cons, Bool.and_eq_true] at f
    rw [List.countP_cons, List.countP_cons, eqU_of r f.1, count_eqU t f.2]
/-- xs.count(y), flat things -/
def rCntF (S : Hp → Addr → List V → Prop) : V → List V → Hp → VK → Prop := fun x xs H Q => ∃ (p : Addr) (ys : List V) (y : V), x = .ref p ∧ xs = [y] ∧ S H p ys ∧ flatV y = true ∧ ys.all flatV = true ∧ Q (.int (ys.countP fun z => eqV z y : Nat)) H
theorem mt_lcountF : MtR X "list.count" (rCntF (SqL X.K)) := by
  intro pins s σ H x xs v us Q I rx rxs ⟨p, ys, y, e1, e2, hs, fy, fys, q⟩
  subst e1 e2
  cases rx
  obtain ⟨u, rfl, ru⟩ := rxs.one
  obtain ⟨its, rv, ⟨⟨cls, dd, data, sl⟩, n, ho, hc, hdn, hd⟩, hlen⟩ := I.list hs
  simp only at hc hd
  cases hc; cases hd
  refine call_meets PySem.F.slot_list_count ⟨_, ho, rfl⟩ PySem.F.entry_list_count (PySem.F.args_list_count_2 _ _) (SeqAt.list_countAt p its.toArray n dd sl u (eqU y)) ⟨ho, fun u' hu' => mem_eqAt ru fy rv fys u' (by simpa using hu'), ?_⟩
  rw [show its.toArray.toList.countP (eqU y) = ys.countP fun z => eqV z y from count_eqU rv fys]
  exact ⟨.int _, H, I.tok _, ⟨s.toks, rfl⟩, q⟩
theorem mt_tcountF : MtR X "tuple.count" (rCntF (SqT X.K)) := by
  intro pins s σ H x xs v us Q I rx rxs ⟨p, ys, y, e1, e2, hs, fy, fys, q⟩
  subst e1 e2
  cases rx
  obtain ⟨u, rfl, ru⟩ := rxs.one
  obtain ⟨its, rv, ⟨⟨cls, dd, data, sl⟩, ho, hc, n, hd⟩, hlen⟩ := I.tuple hs
  simp only at hc hd
  cases hc; cases hd
  refine call_meets PySem.F.slot_tuple_count ⟨_, ho, rfl⟩ PySem.F.entry_tuple_count (PySem.F.args_tuple_count_2 _ _) (SeqAt.tuple_countAt p its.toArray n dd sl u (eqU y)) ⟨ho, fun u' hu' => mem_eqAt ru fy rv fys u' (by simpa using hu'), ?_⟩
  rw [show its.toArray.toList.countP (eqU y) = ys.countP fun z => eqV z y from count_eqU rv fys]
  exact ⟨.int _, H, I.tok _, ⟨s.toks, rfl⟩, q⟩
end
end FW

namespace FW
open PySem PySem.Spec L2 PyProof.Rows
section
variable {X : Cx}
def tRevF (K : PySem.W.Frag) (te : TE) : TE := fun σ H Q => te σ H fun x H1 => ∃ a xs, x = .ref a ∧ ((SqL K H1 a xs ∧ ∀ p, H1 p = none → Q (.ref p) (upd H1 p (.lst xs.reverse))) ∨ (SqT K H1 a xs ∧ NewT Q H1 xs.reverse))
theorem pe_revF {e : Expr} {te : TE} {k : Nat} {p1 p2 p3 pos : Pos} (he : PE X e te) : PE X (.Subscript e (.Slice none none (some (.UnaryOp .USub (.Constant (.int 1) k p1) p2)) p3) pos) (tRevF X.K te) := by
  constructor
  intro pins s σ H Q I h
  refine Subscript_ (thn (he.run pins s σ H _ I h) fun v s1 ⟨x, H1, I1, r1, q1⟩ => ?_)
  obtain ⟨a, xs, ex, hq⟩ := q1
  subst ex
  cases r1
  have hst : PO X (some (.UnaryOp .USub (.Constant (.int 1) k p1) p2)) (tPart (tUn (rU fun i => .int (-i)) (tC (.int 1)))) := po_some (pe_un un_neg pe_int)
  refine wpAny_Slice (thn (po_none.run pins s1 σ H1 (fun o H2 => o = none ∧ H2 = H1) I1 ⟨rfl, rfl⟩) fun vl s2 ⟨l, H2, I2, pl, el, e2⟩ => ?_)
  cases el; cases e2
  refine thn (po_none.run pins s2 σ H1 (fun o H3 => o = none ∧ H3 = H1) I2 ⟨rfl, rfl⟩) fun vu s3 ⟨u, H3, I3, pu, eu, e3⟩ => ?_
  cases eu; cases e3
  refine thn (hst.run pins s3 σ H1 (fun o H4 => o = some (-1) ∧ H4 = H1) I3 ⟨1, rfl, -1, rfl, rfl, rfl⟩) fun vs s4 ⟨o, H4, I4, ps, eo, e4⟩ => ?_
  cases eo; cases e4
  have I5 : Inv X pins σ H1 { s4 with heap := s4.heap.push { cls := .type "slice", data := .fields #[vl, vu, vs] } } := I4.kept (t' := s4.toks) fun b ob q => Heap.get?_push_of_some _ q
  show wpAny (model X.prog X.w) X.A (subscriptTail e (.Slice none none (some (.UnaryOp .USub (.Constant (.int 1) k p1) p2)) p3) (.ref a) (.ref s4.heap.objs.size)) (EP X pins σ Q) X.xe { s4 with heap := s4.heap.push { cls := .type "slice", data := .fields #[vl, vu, vs] } }
  rcases hq with ⟨hx, q⟩ | ⟨hx, q⟩
  · obtain ⟨its, r, ht, hz⟩ := I5.list hx
    have hlen := r.length
    refine tail_any (ops := [.ref a, .ref s4.heap.objs.size]) ht.isList.typeIs (PySem.slot_list_getitem.lookup) ?_ (by with_unfolding_all rfl)
    refine wpAny_getItem_list_slice ht.isList (Heap.IsSliceOf.new _ vl vu vs) pl pu ps (by decide) ?_ (by rw [List.size_toArray]; omega)
    rw [PySem.W.krv_pick]
    exact ⟨.ref _, _, I5.laid (t' := s4.toks) (o := .lst xs.reverse) (fun b ob q => Heap.get?_push_of_some _ q) (Nat.le_refl _) ⟨by rw [List.length_reverse]; exact hz, _, 0, r.reverse, Heap.get?_push_size _ rfl⟩, rfl, q _ (I5.hok.fresh (Nat.le_refl _))⟩
  · obtain ⟨its, r, ht, hz⟩ := I5.tuple hx
    have hlen := r.length
    refine tail_any (ops := [.ref a, .ref s4.heap.objs.size]) ht.typeIs (PyProof.Rows.slot_tuple_getitem.lookup) ?_ (by with_unfolding_all rfl)
    refine getItem_rev ht (Heap.IsSliceOf.new _ vl vu vs) pl pu ps (by omega) ?_
    exact laidT (k := s4.toks) I5 r.reverse (by rw [List.length_reverse]; exact hz) q
end
end FW

namespace FW
open PySem PySem.Spec L2
section
variable {X : Cx} {E : XK} {pos : Pos}
/-- a[::-1] -/
def wRev (a : WE) : WE := fun d m R Z => a d m (fun x m1 => match x with
  | .tup l => R (.tup l.reverse) m1
  | x => (match lstOf m1 x with
    | some l => R (.lst l.reverse) m1
    | none => False)) Z
theorem w_rev {a : Expr} {ta : WE} {k : Nat} {p1 p2 p3 : Pos} (ha : PE X a (tM (gOf X) E ta)) : PE X (.Subscript a (.Slice none none (some (.UnaryOp .USub (.Constant (.int 1) k p1) p2)) p3) pos) (tM (gOf X) E (wRev ta)) :=
  PE_mono (pe_revF ha) fun σ H Q ⟨as, d, m, R, Z, sr, rs, h, ok, ex⟩ => by
    refine ⟨as, d, m, _, Z, sr, rs, h, fun w m1 v H1 as1 f1 s1 r1 h1 => ?_, ex⟩
    have lists : (match lstOf m1 w with
      | some l => R (.lst l.reverse) m1
      | none => False) → ∃ a xs, v = .ref a ∧ ((SqL X.K H1 a xs ∧ ∀ p, H1 p = none → Q (.ref p) (upd H1 p (.lst xs.reverse))) ∨ (SqT X.K H1 a xs ∧ NewT Q H1 xs.reverse)) := fun q => by
      cases e : lstOf m1 w with
      | none => rw [e] at q; exact q.elim
      | some l =>
        rw [e] at q
        obtain ⟨a, vs, k1, k2, k3⟩ := relL s1 r1 e
        exact ⟨a, vs, k1, .inl ⟨k2, fun p hp => new_lst s1 k3.reverse (fun w m2 v H2 as2 f2 s2 r2 q => ok w m2 v H2 as2 (f1.trans f2) s2 r2 q) q hp⟩⟩
    cases w with
    | tup l =>
      obtain ⟨a, vs, k1, k2, k0, k3⟩ := relT r1
      exact ⟨a, vs, k1, .inr ⟨.inl k2, new_tup s1 k3.reverse (fun w m2 v H2 as2 f2 s2 r2 q => ok w m2 v H2 as2 (f1.trans f2) s2 r2 q) h1⟩⟩
    | _ => exact lists h1
/-- the new list, as one that will change -/
theorem new_ref {g : GE} {as : AS} {H : Hp} {m : Sto} {R : WR} {Q : VK} {ws : List W} {vs : List V} {p : Addr} (sr : SR g as H m) (r : RelWs g as H ws vs)
    (ok : ∀ w m' v H' as', Fr as as' H H' → SR g as' H' m' → RelW g as' H' w v → R w m' → Q v H') (q : R (.ref m.length) (m ++ [.lst ws])) (hp : H p = none) : Q (.ref p) (upd H p (.lst vs)) := by
  obtain ⟨f2, s2, e2⟩ := sr.grow (o := .lst ws) (u := .lst vs) hp fun as' f => ⟨vs, upd_same, r.fr f⟩
  exact ok _ _ _ _ _ f2 s2 (.ref e2) q
/-- a + b of lists, to be changed later -/
def oAddM : WO := fun x y m R => match lstOfT m x, lstOfT m y with
  | some a, some b => a.length + b.length ≤ sizeLine ∧ R (.ref m.length) (m ++ [.lst (a ++ b)])
  | _, _ => False
theorem opw_addM : OpW X (binaryOp .Add) oAddM := by
  intro pins s σ H x y v u Q I rx ry ⟨as, wx, wy, m, R, sr, r1, r2, q, ok⟩
  unfold oAddM at q
  split at q
  · rename_i l1 l2 e1 e2
    obtain ⟨a, vs, h1, h2, h3⟩ := relLT sr r1 e1
    obtain ⟨b, us, k1, k2, k3⟩ := relLT sr r2 e2
    exact op_cat pins s σ H x y v u Q I rx ry ⟨a, b, vs, us, h1, k1, h2, k2, by rw [← h3.length, ← k3.length]; exact q.1, fun p hp => new_ref sr (h3.append k3) ok q.2 hp⟩
  · exact q.elim
/-- list(x), to be changed later -/
def fListM : WF := fun ws m R => match ws with
  | [w] => (match seqOf m w with
    | some l => R (.ref m.length) (m ++ [.lst l])
    | none => False)
  | _ => False
theorem cw_listM : CallW X (.type "list") fListM := by
  intro pins s σ H xs us Q I r ⟨as, ws, m, R, sr, rs, q, ok⟩
  unfold fListM at q
  split at q
  · rename_i w
    obtain ⟨v, rfl, r1⟩ := rs.one
    cases e : seqOf m w with
    | none => rw [e] at q; exact q.elim
    | some l =>
      rw [e] at q
      obtain ⟨a, vs, rfl, h2, h3⟩ := relSeq sr r1 e
      exact call_list_of pins s σ H _ us Q I r ⟨a, vs, rfl, h2, fun p hp => new_ref sr h3 ok q hp⟩
  · exact q.elim
/-- {}, to be changed later -/
def wDctM : WE := fun _ m R _ => R (.ref m.length) (m ++ [.dct []])
theorem w_dctM : PE X (.Dict [] [] pos) (tM (gOf X) E wDctM) :=
  PE_mono pe_dnewK fun σ H Q ⟨as, d, m, R, Z, sr, rs, h, ok, ex⟩ p hp => by
    obtain ⟨f2, s2, e2⟩ := sr.grow (o := .dct []) (u := .dK []) hp fun as' f => ⟨[], upd_same, .nil⟩
    exact ok _ _ _ _ _ f2 s2 (.ref e2) h
def mIndex : WM := fun x ws m R => match ws with
  | [y] => (match lstOf m x with
    | some l => isFlat y = true ∧ l.all isFlat = true ∧ (match l.findIdx? fun z => eqF z y with
      | some j => R (.int (j : Nat)) m
      | none => False)
    | none => False)
  | _ => False
theorem eqF_rel2 {g : GE} {as : AS} {H : Hp} {x y : W} {u v : V} (r1 : RelW g as H x u) (f1 : isFlat x = true) (r2 : RelW g as H y v) (f2 : isFlat y = true) : eqV u v = eqF x y := by
  cases r1 <;> cases r2 <;> first | rfl | cases f1 | cases f2
theorem mw_index : MtR X "list.index" (rWM (gOf X) mIndex) := by
  intro pins s σ H x xs v us Q I rx rv ⟨as, wx, ws, m, R, sr, r1, r2, q, ok⟩
  unfold mIndex at q
  split at q
  · rename_i y
    obtain ⟨vy, rfl, ry⟩ := r2.one
    cases e : lstOf m wx with
    | none => rw [e] at q; exact q.elim
    | some l =>
      rw [e] at q
      obtain ⟨fy, fl, q⟩ := q
      obtain ⟨a, vs, rfl, k2, k3⟩ := relL sr r1 e
      cases e2 : l.findIdx? fun z => eqF z y with
      | none => rw [e2] at q; exact q.elim
      | some j =>
        rw [e2] at q
        obtain ⟨hj, h1, h2⟩ := List.findIdx?_eq_some_iff_getElem.mp e2
        have all : ∀ z ∈ l, isFlat z = true := List.all_eq_true.mp fl
        obtain ⟨vj, ej, rj⟩ := k3.get (List.getElem?_eq_getElem hj)
        refine mt_index pins s σ H _ _ v us Q I rx rv ⟨a, vs, vy, j, vj, rfl, rfl, k2, flat_rel ry fy, flats_rel k3 fl, ej, ?_, fun i z' hi hz => ?_, ok _ m _ H as (Fr.refl _ _) sr (.int _) q⟩
        · rw [eqF_rel2 rj (all _ (List.getElem_mem hj)) ry fy]; exact h1
        · have hil : i < l.length := by omega
          obtain ⟨vi, ei, ri⟩ := k3.get (List.getElem?_eq_getElem hil)
          rw [ei] at hz; cases hz
          rw [eqF_rel2 ri (all _ (List.getElem_mem hil)) ry fy]
          have := h2 i hi
          simpa using this
  · exact q.elim
def mCount : WM := fun x ws m R => match ws with
  | [y] => (match lstOf m x with
    | some l => isFlat y = true ∧ l.all isFlat = true ∧ R (.int ((l.countP fun z => eqF z y : Nat))) m
    | none => False)
  | _ => False
theorem count_rel {g : GE} {as : AS} {H : Hp} {y : W} {v : V} (ry : RelW g as H y v) (fy : isFlat y = true) : ∀ {ws : List W} {vs : List V}, RelWs g as H ws vs → ws.all isFlat = true → (vs.countP fun z => eqV z v) = ws.countP fun z => eqF z y
  | _, _, .nil, _ => rfl
  | _, _, .cons a t, f => by
    rw [List.all_cons, Bool.and_eq_true] at f
    rw [List.countP_cons, List.countP_cons, count_rel ry fy t f.2, eqF_rel2 a f.1 ry fy]
theorem mw_count : MtR X "list.count" (rWM (gOf X) mCount) := by
  intro pins s σ H x xs v us Q I rx rv ⟨as, wx, ws, m, R, sr, r1, r2, q, ok⟩
  unfold mCount at q
  split at q
  · rename_i y
    obtain ⟨vy, rfl, ry⟩ := r2.one
    cases e : lstOf m wx with
    | none => rw [e] at q; exact q.elim
    | some l =>
      rw [e] at q
      obtain ⟨fy, fl, q⟩ := q
      obtain ⟨a, vs, rfl, k2, k3⟩ := relL sr r1 e
      refine mt_lcountF pins s σ H _ _ v us Q I rx rv ⟨a, vs, vy, rfl, rfl, k2, flat_rel ry fy, flats_rel k3 fl, ?_⟩
      rw [count_rel ry fy k3 fl]
      exact ok _ m _ H as (Fr.refl _ _) sr (.int _) q
  · exact q.elim
def wSetd (o : WE) (e f : WE) : WE := fun d m R Z => o d m (fun x m1 => match x with
  | .ref n => (∃ kvs, m1[n]? = some (.dct kvs)) ∧ e d m1 (fun y m2 => f d m2 (fun z m3 => match y, m3[n]? with
    | .str k, some (.dct kvs) => kvs.length < sizeLine ∧ (match valW kvs (.inr k) with
      | some w => R w m3
      | none => R z (m3.set n (.dct (kvs ++ [(.inr k, z)]))))
    | _, _ => False) Z) Z
  | _ => False) Z
theorem RelKs.snoc {g : GE} {as : AS} {H : Hp} {k : Key} {w : W} {v : V} (r : RelW g as H w v) : ∀ {ws : List (Key × W)} {vs : List (Key × V)}, RelKs g as H ws vs → RelKs g as H (ws ++ [(k, w)]) (vs ++ [(k, v)])
  | _, _, .nil => .cons r .nil
  | _, _, .cons a t => .cons a (t.snoc r)
theorem putK_new {kvs : List (Key × V)} {k : Key} {v : V} (h : valV kvs k = none) : putK kvs k v = kvs ++ [(k, v)] := by
  unfold putK
  rw [valV_any, h]
  rfl
theorem w_setd {o e f : Expr} {to te tf : WE} {apos : Pos} (ho : PE X o (tM (gOf X) E to)) (he : PE X e (tM (gOf X) E te)) (hf : PE X f (tM (gOf X) E tf)) (hb : attributeBase o "setdefault" X.env (eval o X.env) = eval o X.env) (hn : notStar e = true) (hn2 : notStar f = true) (hl : (apos.endLine == pos.line) = true) :
    PE X (.Call (.Attribute o "setdefault" apos) [e, f] [] pos) (tM (gOf X) E (wSetd to te tf)) := by
  have hall : [e, f].all notStar = true := by rw [List.all_cons, List.all_cons, hn, hn2]; rfl
  have tr : backTo pos (starEach [e, f] X.env) = [(false, eval e X.env), (false, eval f X.env)] := by
    rw [starEach_plain hn, starEach_plain hn2]; rfl
  refine PE_mono (pe_dsetd ho he hf ⟨hb, by rw [tr]; rfl, hl, tr⟩) fun σ H Q ⟨as, d, m, R, Z, sr, rs, h, ok, ex⟩ => ?_
  refine ⟨as, d, m, _, Z, sr, rs, h, fun w m1 v H1 as1 f1 s1 r1 h1 => ?_, ex⟩
  cases w with
  | ref n =>
    obtain ⟨⟨kvs0, em⟩, h1⟩ := h1
    cases r1 with
    | @ref _ a ea =>
      obtain ⟨kv2, hh, hk⟩ := s1.ok n a _ ea em
      refine ⟨a, rfl, .inl ⟨kv2, .inl hh⟩, as1, d, m1, _, Z, s1, rs.fr f1, h1, fun y m2 vy H2 as2 f2 s2 r2 h2 => ?_, ex.fr f1⟩
      refine ⟨as2, d, m2, _, Z, s2, (rs.fr f1).fr f2, h2, fun z m3 vz H3 as3 f3 s3 r3 h3 => ?_, (ex.fr f1).fr f2⟩
      split at h3
      · rename_i k kvs em3
        have ea3 := f3.ext n a (f2.ext n a ea)
        obtain ⟨kv3, hh3, hk3⟩ := s3.ok n a _ ea3 em3
        have hlen := hk3.length
        refine ⟨kv3, .inr k, hh3, relStr r2, by omega, fun u hu => ?_, fun hu => ?_⟩
        · rcases hk3.val (k := .inr k) with ⟨h5, h6⟩ | ⟨w0, v0, h5, h6, r6⟩
          · rw [h6] at hu; cases hu
          · rw [h6] at hu; cases hu
            rw [h5] at h3
            exact ok _ _ _ _ as3 (f1.trans (f2.trans f3)) s3 r6 h3.2
        · rcases hk3.val (k := .inr k) with ⟨h5, h6⟩ | ⟨w0, v0, h5, h6, r6⟩
          · rw [h5] at h3
            rw [putK_new hu]
            have f4 := s3.putFr (u := .dK (kv3 ++ [(.inr k, vz)])) ea3
            obtain ⟨_, s4⟩ := s3.put (o := .dct (kvs ++ [(.inr k, z)])) (u := .dK (kv3 ++ [(.inr k, vz)])) ea3 ⟨_, upd_same, (hk3.snoc r3).fr f4⟩
            exact ok _ _ _ _ as3 (f1.trans (f2.trans (f3.trans f4))) s4 (r3.fr f4) h3.2
          · rw [h6] at hu; cases hu
      · exact h3.elim
  | _ => exact h1.elim
def gAll : List WG → List W → List (Option W) → Sto → (List (Option W) → Sto → Prop) → Prop
  | [], [], d, m, P => P d m
  | g :: gs, w :: ws, d, m, P => g w d m fun d1 m1 => gAll gs ws d1 m1 P
  | _, _, _, _, _ => False
def gTupG (gs : List WG) : WG := fun w d m P => match w with
  | .tup ws => ws.length = gs.length ∧ gAll gs ws d m P
  | .tpu ws => ws.length = gs.length ∧ gAll gs ws d m P
  | _ => False
def tMGs (g : GE) (gs : List WG) : TGs := fun vs σ H Q => ∃ as ws d m P, SR g as H m ∧ RelWs g as H ws vs ∧ RelS g as H σ d ∧ gAll gs ws d m P ∧ NLk g as H P Q
theorem pgsW_nil : PGs X [] (tMGs (gOf X) []) := ⟨fun pins s σ H vs us Q I r ⟨as, ws, d, m, P, sr, rw', rs, h, lk⟩ => by
  cases ws with
  | nil =>
    cases rw'
    exact pgs_nil.run pins s σ H [] us Q I r ⟨rfl, lk _ m σ H as (Fr.refl _ _) sr rs h⟩
  | cons _ _ => exact h.elim⟩
theorem pgsW_cons {e : Expr} {es : List Expr} {g : WG} {gs : List WG} (h1 : PG X e (tMG (gOf X) g)) (h2 : PGs X es (tMGs (gOf X) gs)) (hs : (assignEach (e :: es) X.env).map (·.2) = assign e X.env :: (assignEach es X.env).map (·.2)) :
    PGs X (e :: es) (tMGs (gOf X) (g :: gs)) := ⟨fun pins s σ H vs us Q I r ⟨as, ws, d, m, P, sr, rw', rs, h, lk⟩ => by
  cases ws with
  | nil => exact h.elim
  | cons w ws =>
    cases rw' with
    | cons r1 rr =>
      refine (pgs_cons h1 h2 hs).run pins s σ H _ us Q I r ⟨_, _, rfl, as, w, d, m, _, sr, r1, rs, h, fun d1 m1 σ1 H1 as1 f1 s1 q1 p1 => ?_⟩
      exact ⟨as1, ws, d1, m1, P, s1, rr.fr f1, q1, p1, fun d2 m2 σ2 H2 as2 f2 s2 q2 p2 => lk d2 m2 σ2 H2 as2 (f1.trans f2) s2 q2 p2⟩⟩
theorem g_tupG {es : List Expr} {gs : List WG} {k : Nat} (hc : X.calm = true) (h : PGs X es (tMGs (gOf X) gs)) (hn : (assignEach es X.env).length = gs.length) (hst : (assignEach es X.env).findIdx? (·.1) = none) :
    PG X (.Tuple es k pos) (tMG (gOf X) (gTupG gs)) :=
  PG_mono (pg_tup hc h hn hst) fun v σ H Q ⟨as, w, d, m, P, sr, rw', rs, h1, lk⟩ => by
    cases w with
    | tup ws =>
      obtain ⟨a, vs, rfl, h2, h0, h3⟩ := relT rw'
      exact ⟨a, vs, rfl, .inl h2, by rw [← h3.length]; exact h1.1, as, ws, d, m, P, sr, h3, rs, h1.2, lk⟩
    | tpu ws =>
      cases rw' with
      | tpu h0 h2 h3 => exact ⟨_, _, rfl, .inl (.inl h2), by rw [← h3.length]; exact h1.1, as, ws, d, m, P, sr, h3, rs, h1.2, lk⟩
    | _ => exact h1.elim
end
end FW

namespace FW
open PySem PySem.Spec L2
open AutoSeq1 (wpAny_loadPart')
open PyProof.Rows (Call_)
theorem meets_enumerate_newT (l : Addr) (items : Array Value) (n : Nat) (dct : Option Addr) (sl : Array (Option Value)) :
    Meets (Builtin.«enumerate.__new__» ⟨[.type "enumerate", .ref l], []⟩) (fun _ R s => s.heap.get? l = some { cls := .type "tuple", dict := dct, data := .seq items n, slots := sl } ∧
      R (.ok (.ret (.ref (s.heap.push { cls := .type "tuple_iterator", data := .fields #[.ref l, .int 0 0] }).objs.size)))
        { s with heap := (s.heap.push { cls := .type "tuple_iterator", data := .fields #[.ref l, .int 0 0] }).push { cls := .type "enumerate", data := .fields #[.none, .bool false, .ref s.heap.objs.size, rawInt 0, .none, .none] } }) :=
  .of_wp fun prog w A R s h => by
    obtain ⟨hp, g, d, tk, os⟩ := s; obtain ⟨hl, h⟩ := h
    have hsub := sub_enumerate
    have hL : Heap.IsTuple (Shared.heap ⟨hp, g, d, tk, os⟩) l items := ⟨_, hl, rfl, n, rfl⟩
    wp_walk using wpAny_loadPart' hl
    refine wpAny_stack_any fun st => wpAny_pure ?_
    split
    · rename_i c _ _ _ _ _
      cases (c == Value.type "enumerate")
      · wp_walk using wpAny_loadPart' hl, wpAny_pyIter_tuple hL
        exact ⟨_, rfl, h⟩
      · wp_walk using wpAny_loadPart' hl, wpAny_pyIter_tuple hL
        exact ⟨_, rfl, h⟩
    · wp_walk using wpAny_loadPart' hl, wpAny_pyIter_tuple hL
      exact ⟨_, rfl, h⟩
theorem call_enumerate_tuple {prog : Program} {w : World} {A : Around} {E : Value → Shared → Prop} {s : Shared} {l : Addr} {items : Array Value} {Q : Value → Shared → Prop} (hL : s.heap.IsTuple l items)
    (h : ∀ h', IsEnum h' (s.heap.objs.size + 1) s.heap.objs.size 0 .none → h'.IsTupleIter s.heap.objs.size l 0 → h'.objs.size = s.heap.objs.size + 2 →
      (∀ b o, s.heap.get? b = some o → h'.get? b = some o) → Q (.ref (s.heap.objs.size + 1)) { s with heap := h' }) :
    wpAny (model prog w) A (call (.type "enumerate") [.ref l]) Q E s := by
  obtain ⟨⟨c, dct, dt, sl⟩, hl, hc, n, hd⟩ := hL
  replace hc : c = .type "tuple" := hc
  replace hd : dt = .seq items n := hd
  subst hc hd
  refine callType_new F.called_enumerate (by decide) (F.typeCall_enumerate_1 _) (F.newCall_enumerate_1 _) (fun obj => F.args_object_init_2 obj _) F.entry_enumerate_new
    (meets_enumerate_newT l items n dct sl) ⟨hl, ?_⟩
  have hz : (s.heap.push { cls := .type "tuple_iterator", data := .fields #[.ref l, .int 0 0] }).objs.size = s.heap.objs.size + 1 := Heap.size_push ..
  show _ ∧ _
  rw [hz]
  have he : IsEnum ((s.heap.push { cls := .type "tuple_iterator", data := .fields #[.ref l, .int 0 0] }).push
      { cls := .type "enumerate", data := .fields #[.none, .bool false, .ref s.heap.objs.size, rawInt 0, .none, .none] }) (s.heap.objs.size + 1) s.heap.objs.size 0 .none := by
    have := Heap.get?_push_size (s.heap.push { cls := .type "tuple_iterator", data := .fields #[.ref l, .int 0 0] })
      (o := { cls := .type "enumerate", data := .fields #[.none, .bool false, .ref s.heap.objs.size, rawInt 0, .none, .none] }) rfl
    rw [hz] at this; exact this
  refine ⟨⟨_, he, rfl⟩, h _ he ⟨_, Heap.get?_push_of_some _ (Heap.get?_push_size _ rfl), rfl, rfl⟩ (by rw [Heap.size_push, hz]) fun b o x => Heap.get?_push_of_some _ (Heap.get?_push_of_some _ x)⟩
/-- the tuple at a, each item in a new pair -/
def IteT (K : PySem.W.Frag) (a : Addr) : It :=
  ⟨fun i H => ∃ (xs : List V) (x : V), SqT K H a xs ∧ xs[i]? = some x, fun i H v H' => ∃ T x, v = .ref T ∧ H T = none ∧ H' = upd H T (.tup [.int (i : Nat), x]) ∧ ∀ xs, SqT K H a xs → xs[i]? = some x, fun i H => ∃ xs : List V, SqT K H a xs ∧ xs.length ≤ i⟩
theorem turn_enumT {P : Program} {w : World} {K : PySem.W.Frag} {elts : List Expr} {kk : Nat} {tpos : Pos} (a e it : Addr) :
    Turn P w K (.Tuple elts kk tpos) (IteT K a) [e, it] e (fun i h => (∃ old, IsEnum h e it ((i : Nat) : Int) old) ∧ h.IsTupleIter it a i ∧ e ≠ it ∧ a ≠ it ∧ e ≠ a) where
  mem := by simp
  obj := fun i h st b hb => by
    obtain ⟨⟨old, he⟩, ⟨o, ho, hc, hd⟩, _⟩ := st
    have e' : b = e ∨ b = it := by simpa using hb
    rcases e' with z | z
    · rw [z]; exact ⟨_, he, fun v q => nomatch q⟩
    · rw [z]; exact ⟨o, ho, fun v q => by rw [hd] at q; cases q⟩
  keep := fun i h h' st k => let ⟨⟨old, he⟩, hi, hne⟩ := st; ⟨⟨old, k e (by simp) _ he⟩, hi.at fun o q => k it (by simp) o q, hne⟩
  item := by
    intro X hP hw hK hc i pins s σ H E I hf st hg
    subst hP hw hK
    obtain ⟨⟨old, he⟩, hit, hne, hai, hea⟩ := st
    obtain ⟨xs, x, hq, hx⟩ := hg
    obtain ⟨its, rv, p, hz⟩ := I.tuple hq
    obtain ⟨u, hu, ru⟩ := rv.get hx
    have hel : e < s.heap.objs.size := Heap.lt_size he
    have hil : it < s.heap.objs.size := by obtain ⟨_, q, _⟩ := hit; exact Heap.lt_size q
    have hlt : i < its.toArray.size := by
      have := rv.length
      have h2 := (List.getElem?_eq_some_iff.mp hx).1
      simp; omega
    refine wpAny_pyNext_enum_itemD (Draws.tuple (show X.A.in1.handled = none from I.ok.hd hc) it a hai its.toArray) he ⟨hit, p⟩ hlt hne (by simp [hne, hea]) fun y h' tk hy ho hst hT hsz hk => ?_
    have ey : y = u := by
      have : its[i]? = some y := by simpa using hy
      rw [hu] at this; exact (Option.some.inj this).symm
    subst ey
    obtain ⟨hit', _⟩ := hst
    refine ⟨_, rfl, wpAny_letOwnedTupleGo_enum (s := { s with heap := h', toks := tk + 1 }) ho fun h'' he' sb => ?_⟩
    have hT2 : h''.get? s.heap.objs.size = some { cls := .type "tuple", data := .seq #[.int i tk, y] } := (sb.2 _ (Nat.ne_of_gt hel)).trans hT
    have new : ObjOk X.prog X.w (upd H s.heap.objs.size (.tup [.int (i : Nat), x])) h'' s.heap.objs.size (.tup [.int (i : Nat), x]) :=
      ⟨by show 2 ≤ sizeLine; decide, [.int i tk, y], .cons ⟨_, rfl⟩ (.cons ru .nil), ⟨_, hT2, rfl, _, rfl⟩⟩
    have I1 : Inv X pins σ (upd H s.heap.objs.size (.tup [.int (i : Nat), x])) { s with heap := h'', toks := tk + 1 } :=
      I.turnedNew (ch := [e, it]) (fun b ob hb q => (sb.2 b (fun z => hb (by simp [z]))).trans (hk b ob (fun z => hb (by simp [z])) (fun z => hb (by simp [z])) q)) hf (Nat.le_refl _) new
    refine ⟨.ref s.heap.objs.size, _, I1, rfl, ⟨_, x, rfl, I.hok.fresh (Nat.le_refl _), rfl, fun ys hy => by rw [I.tuple_inj hy hq]; exact hx⟩, ⟨⟨y, ?_⟩, hit'.at fun o q => (sb.2 it (Ne.symm hne)).trans q, hne, hai, hea⟩, fun b hb => ?_⟩
    · have e1 : ((i + 1 : Nat) : Int) = (i : Int) + 1 := by omega
      rw [e1]; exact he'
    · have hb' : b < s.heap.objs.size := by
        have e' : b = e ∨ b = it := by simpa using hb
        rcases e' with z | z
        · rw [z]; exact hel
        · rw [z]; exact hil
      rw [upd_ne (Nat.ne_of_lt hb')]
      exact (hf b hb).1
  done := by
    intro X hP hw hK hc i pins s σ H E I hf st hg
    subst hP hw hK
    obtain ⟨⟨old, he⟩, hit, hne, hai, hea⟩ := st
    obtain ⟨xs, hq, hx⟩ := hg
    obtain ⟨its, rv, p, hz⟩ := I.tuple hq
    obtain ⟨f0, f1, f2, f3, f4, f5⟩ := hf it (by simp)
    have hl := rv.length
    have hT : s.TypeIs (.ref e) "enumerate" := ⟨_, he, rfl⟩
    unfold pyNext
    refine wpAny_bind (wpAny_attempt (wpAny_callSpecial?_slot (name := Str.ofString "__next__") hT F.slot_enumerate_next
      (wpAny_call_entry F.slot_enumerate_next hT F.entry_enumerate_next ?_ (F.args_enumerate_next_1 _))))
    show wpAny _ _ (field (.ref e) 2 >>= _) _ _ _
    refine wpAny_bind (wpAny_field he rfl (x := .ref it) rfl ?_)
    refine wpAny_bind (wpAny_nextOf_tuple_end (show X.A.in1.handled = none from I.ok.hd hc) hit p (by simp; omega) fun h' x he' hx' => ?_)
    obtain ⟨o, ho, hc'⟩ := hx'
    refine wpAny_bind (wpAny_isInstance (T := "StopIteration") (b := true) ⟨o, ho, hc'⟩ isSubtype_stop ?_)
    exact wpAny_pure ⟨rfl, I.turned (t' := s.toks) (fun b o hb q => he' b o hb q) f0 f1 f3 f4 f5⟩
  self := fun A i s Q E st h => let ⟨⟨_, he⟩, _⟩ := st; wpAny_pyIter_enum he h
/-- enumerate of a list or of a tuple -/
def iEnumT (K : PySem.W.Frag) (ta : TA) : TI := fun σ H R => ta σ H fun vs H1 => ∃ a, vs = [.ref a] ∧ ((∃ xs, SqL K H1 a xs ∧ R (Ite K a) H1) ∨ ∃ xs, SqT K H1 a xs ∧ R (IteT K a) H1)
theorem pi_enumT {X : Cx} {e : Expr} {ta : TA} {p pos tpos : Pos} {elts : List Expr} {kk : Nat} (hg : Gl X "enumerate") (hm : X.mg "enumerate" = none) (ha : PA X [e] ta) (hs : starEach [e] X.env = [(false, eval e X.env)] := by rfl) :
    PI X (.Tuple elts kk tpos) (.Call (.Name "enumerate" p) [e] [] pos) (iEnumT X.K ta) := by
  refine ⟨fun pins s σ H R I h => ?_⟩
  refine Call_ (ld_blt I hg hm PyProof.Rows.boot_enumerate (PyProof.Rows.callWith_type1 (thn (ha.run pos pins s σ H _ I h) fun us s1 ⟨vs, H1, I1, r1, q1⟩ => ?_) hs rfl))
  obtain ⟨a, ex, q⟩ := q1
  subst ex
  cases r1 with
  | cons r rr =>
    cases rr
    cases r
    have hle : ∀ b, b = s1.heap.objs.size + 1 ∨ b = s1.heap.objs.size → s1.heap.objs.size ≤ b := fun b e' => by
      rcases e' with z | z
      · rw [z]; exact Nat.le_add_right _ _
      · rw [z]; exact Nat.le_refl _
    rcases q with ⟨xs, hq, q⟩ | ⟨xs, hq, q⟩
    · obtain ⟨its, rv, p', hz⟩ := I1.list hq
      refine call_enumerate_list p'.isList fun h' he hit hsz hk => wpAny_pyIter_enum he ?_
      have I2 : Inv X pins σ H1 { s1 with heap := h' } := I1.kept (t' := s1.toks) hk
      refine ⟨s1.heap.objs.size + 1, [s1.heap.objs.size + 1, s1.heap.objs.size], _, _, H1, rfl, I2, turn_enum a (s1.heap.objs.size + 1) s1.heap.objs.size, ⟨⟨.none, he⟩, hit, Nat.succ_ne_self _⟩, fun b hb => ?_, q⟩
      exact I1.fpOk (hle b (by simpa using hb)) (I1.hok.fresh (hle b (by simpa using hb)))
    · obtain ⟨its, rv, p', hz⟩ := I1.tuple hq
      have hlt : a < s1.heap.objs.size := p'.lt
      refine call_enumerate_tuple p' fun h' he hit hsz hk => wpAny_pyIter_enum he ?_
      have I2 : Inv X pins σ H1 { s1 with heap := h' } := I1.kept (t' := s1.toks) hk
      refine ⟨s1.heap.objs.size + 1, [s1.heap.objs.size + 1, s1.heap.objs.size], _, _, H1, rfl, I2, turn_enumT a (s1.heap.objs.size + 1) s1.heap.objs.size, ⟨⟨.none, he⟩, hit, Nat.succ_ne_self _, Nat.ne_of_lt hlt, Nat.ne_of_gt (Nat.lt_succ_of_lt hlt)⟩, fun b hb => ?_, q⟩
      exact I1.fpOk (hle b (by simpa using hb)) (I1.hok.fresh (hle b (by simpa using hb)))
def enumP (n : Nat) : List W → List W
  | [] => []
  | x :: xs => .tpu [.int (n : Nat), x] :: enumP (n + 1) xs
theorem enumP_get : ∀ {xs : List W} {n i : Nat} {w : W}, (enumP n xs)[i]? = some w → ∃ x, xs[i]? = some x ∧ w = .tpu [.int ((n + i : Nat) : Int), x]
  | [], _, _, _, e => by simp [enumP] at e
  | x :: xs, n, 0, w, e => by simp [enumP] at e; exact ⟨x, rfl, e.symm⟩
  | x :: xs, n, i + 1, w, e => by
    obtain ⟨y, h1, h2⟩ := enumP_get (xs := xs) (n := n + 1) (i := i) (w := w) (by simpa [enumP] using e)
    exact ⟨y, by simpa using h1, by rw [h2]; congr 3; omega⟩
theorem enumP_len : ∀ (xs : List W) (n : Nat), (enumP n xs).length = xs.length
  | [], _ => rfl
  | _ :: xs, n => by simp [enumP, enumP_len xs]
def wEnum (t : WA) : WI := fun d m Q Z => t d m (fun ws m1 => match ws with
  | [w] => (match w with
    | .tup l => Q (enumP 0 l) (fun _ => True) m1
    | w => (match lstOf m1 w with
      | some l => Q (enumP 0 l) (fun m2 => lstOf m2 w = some l) m1
      | none => False))
  | _ => False) Z
theorem itr_enumT {g : GE} {as : AS} {H : Hp} {a : Addr} {l : List W} (r : RelW g as H (.tup l) (.ref a)) : ItR g (IteT g.K a) as H (enumP 0 l) (fun _ => True) := by
  refine ⟨fun i w as1 H1 m f sr st e => ?_, fun as1 H1 m f sr st => ?_⟩
  · obtain ⟨x, e1, rfl⟩ := enumP_get e
    obtain ⟨a', vs, q1, q2, _, q3⟩ := relT (r.fr0 f)
    cases q1
    obtain ⟨vx, ex, rx⟩ := q3.get e1
    refine ⟨⟨vs, vx, .inl q2, ex⟩, fun v H' hy => ?_⟩
    obtain ⟨T, x', rfl, hT, rfl, h1⟩ := hy
    have e3 := h1 vs (.inl q2)
    rw [ex] at e3; cases e3
    rw [Nat.zero_add]
    exact ⟨Fr.new hT, sr.new hT, .tpu (sr.out hT) upd_same (.cons (.int _) (.cons (rx.fr (Fr.new hT)) .nil))⟩
  · obtain ⟨a', vs, q1, q2, _, q3⟩ := relT (r.fr0 f)
    cases q1
    refine ⟨vs, .inl q2, ?_⟩
    rw [enumP_len, q3.length]
    omega
theorem itr_enumL {g : GE} {as : AS} {H : Hp} {w1 : W} {a : Addr} {l : List W} (r : RelW g as H w1 (.ref a)) : ItR g (Ite g.K a) as H (enumP 0 l) (fun m2 => lstOf m2 w1 = some l) := by
  refine ⟨fun i w as1 H1 m f sr st e => ?_, fun as1 H1 m f sr st => ?_⟩
  · obtain ⟨x, e1, rfl⟩ := enumP_get e
    obtain ⟨a', vs, q1, q2, q3⟩ := relL sr (r.fr0 f) st
    cases q1
    obtain ⟨vx, ex, rx⟩ := q3.get e1
    refine ⟨⟨vs, vx, q2, ex⟩, fun v H' hy => ?_⟩
    obtain ⟨T, x', rfl, hT, rfl, h1⟩ := hy
    have e3 := h1 vs q2
    rw [ex] at e3; cases e3
    rw [Nat.zero_add]
    exact ⟨Fr.new hT, sr.new hT, .tpu (sr.out hT) upd_same (.cons (.int _) (.cons (rx.fr (Fr.new hT)) .nil))⟩
  · obtain ⟨a', vs, q1, q2, q3⟩ := relL sr (r.fr0 f) st
    cases q1
    refine ⟨vs, q2, ?_⟩
    rw [enumP_len, q3.length]
    omega
theorem i_enum {X : Cx} {E : XK} {pos : Pos} {e : Expr} {ta : WA} {p tpos : Pos} {elts : List Expr} {kk : Nat} (hg : Gl X "enumerate") (hm : X.mg "enumerate" = none) (ha : PA X [e] (tMA (gOf X) E ta)) (hs : notStar e = true) :
    PI X (.Tuple elts kk tpos) (.Call (.Name "enumerate" p) [e] [] pos) (tMI (gOf X) E (wEnum ta)) :=
  PI_mono (pi_enumT hg hm ha (by rw [starEach_plain hs]; rfl)) fun σ H R ⟨as, d, m, Q, Z, sr, rs, h, ok, ex⟩ => by
    refine ⟨as, d, m, _, Z, sr, rs, h, fun ws m1 vs H1 as1 f1 s1 r1 h1 => ?_, ex⟩
    split at h1
    · rename_i w1
      obtain ⟨v1, rfl, q1⟩ := r1.one
      split at h1
      · rename_i l
        obtain ⟨a, xs, rfl, k1, _, k2⟩ := relT q1
        exact ⟨a, rfl, .inr ⟨xs, .inl k1, ok _ _ m1 _ H1 as1 f1 s1 (itr_enumT q1) h1⟩⟩
      · split at h1
        · rename_i l e1
          obtain ⟨a, xs, rfl, k1, k2⟩ := relL s1 q1 e1
          exact ⟨a, rfl, .inl ⟨xs, k1, ok _ _ m1 _ H1 as1 f1 s1 (itr_enumL q1) h1⟩⟩
        · exact h1.elim
    · exact h1.elim
end FW

namespace FW
open PySem PySem.Spec L2
section
variable {X : Cx} {E : XK} {pos : Pos}
/-- what is told is locked for good -/
theorem pe_freeze {e : Expr} {t : TE} (h : PE X e t) : PE X e (fun σ H Q => t σ H fun v H1 => ∃ d u, v = .ref d ∧ H1 d = some u ∧ Mut (some u) ∧ ∀ od, Q v (upd H1 d (.frz od u))) := by
  refine ⟨fun pins s σ H Q I hq => ?_⟩
  refine thn (h.run pins s σ H _ I hq) fun v s1 ⟨x, H1, I1, r1, d, u, e, hd, mu, q⟩ => ?_
  subst e
  obtain ⟨od, I2⟩ := I1.lock hd mu
  exact ⟨.ref d, _, I2, r1, q od⟩
def wDctL (ks : List Key) (t : WA) : WE := fun d m R Z => t d m (fun ws m1 => ∀ o vs, R (.ref m1.length) (m1 ++ [.dcl o vs (ks.zip ws)])) Z
structure PPK (X : Cx) (E : XK) (pos : Pos) (keys : List (Option Expr)) (values : List Expr) (ks : List Key) (t : WA) : Prop where
  ex : ∃ trs, PPs X pos keys values trs ∧ ∀ σ H Q, tG (gOf X) E (fun as H (ws : List W) (ps : List (V × V)) => ∃ vs, ps = (ks.map kV).zip vs ∧ RelWs (gOf X) as H ws vs ∧ ws.length = ks.length) t σ H Q → tPairs trs σ H Q
  len : keys.length = ks.length ∧ values.length = ks.length ∧ keys.all (·.isSome) = true
theorem ppk_nil : PPK X E pos [] [] [] wNil := ⟨⟨[], pps_nil, fun σ H Q ⟨as, d, m, R, Z, sr, rs, h, ok, ex⟩ => ok _ m [] H as (Fr.refl _ _) sr ⟨[], rfl, .nil, rfl⟩ h⟩, rfl, rfl, rfl⟩
theorem ppk_str {k : Str} {j p} {v : Expr} {keys : List (Option Expr)} {values : List Expr} {ks : List Key} {tv : WE} {t : WA} (hv : PE X v (tM (gOf X) E tv)) (hr : PPK X E pos keys values ks t) :
    PPK X E pos (some (.Constant (.str k) j p) :: keys) (v :: values) (.inr k :: ks) (wCons tv t) := by
  obtain ⟨⟨trs, h1, h2⟩, l1, l2, l3⟩ := hr
  refine ⟨⟨_, pps_cons pe_str hv h1, fun σ H Q ⟨as, d, m, R, Z, sr, rs, h, ok, ex⟩ => ?_⟩, by simp [l1], by simp [l2], by simp [l3]⟩
  refine ⟨as, d, m, _, Z, sr, rs, h, fun w m1 v1 H1 as1 f1 s1 r1 q1 => ?_, ex⟩
  refine h2 σ H1 _ ⟨as1, d, m1, _, Z, s1, rs.fr f1, q1, fun ws m2 ps H2 as2 f2 s2 ⟨vs, e, r2, hl⟩ q2 => ?_, ex.fr f1⟩
  subst e
  exact ok _ m2 _ H2 as2 (f1.trans f2) s2 ⟨v1 :: vs, rfl, .cons (r1.fr f2) r2, by simp [hl]⟩ q2
theorem ppk_int {k : Int} {j p} {v : Expr} {keys : List (Option Expr)} {values : List Expr} {ks : List Key} {tv : WE} {t : WA} (hv : PE X v (tM (gOf X) E tv)) (hr : PPK X E pos keys values ks t) :
    PPK X E pos (some (.Constant (.int k) j p) :: keys) (v :: values) (.inl k :: ks) (wCons tv t) := by
  obtain ⟨⟨trs, h1, h2⟩, l1, l2, l3⟩ := hr
  refine ⟨⟨_, pps_cons pe_int hv h1, fun σ H Q ⟨as, d, m, R, Z, sr, rs, h, ok, ex⟩ => ?_⟩, by simp [l1], by simp [l2], by simp [l3]⟩
  refine ⟨as, d, m, _, Z, sr, rs, h, fun w m1 v1 H1 as1 f1 s1 r1 q1 => ?_, ex⟩
  refine h2 σ H1 _ ⟨as1, d, m1, _, Z, s1, rs.fr f1, q1, fun ws m2 ps H2 as2 f2 s2 ⟨vs, e, r2, hl⟩ q2 => ?_, ex.fr f1⟩
  subst e
  exact ok _ m2 _ H2 as2 (f1.trans f2) s2 ⟨v1 :: vs, rfl, .cons (r1.fr f2) r2, by simp [hl]⟩ q2
theorem zip_kK : ∀ (ks : List Key) (vs : List V), (ks.map kV).zip vs = (ks.zip vs).map (fun kv => (kV kv.1, kv.2))
  | [], _ => by simp
  | _ :: _, [] => by simp
  | k :: ks, v :: vs => by
    simp only [List.map_cons, List.zip_cons_cons]
    rw [zip_kK ks vs]
/-- what was hidden is of the store now -/
theorem SR.unhide {g : GE} {as : AS} {H : Hp} {m : Sto} {p : Addr} {u : HO} {o : Ob} {h2 : List Addr} (s : SR g as H m) (hp : p ∈ as.h) (hs : ∀ b ∈ h2, b ∈ as.h ∧ b ≠ p)
    (ho : ∀ as', Fr0 as as' H (upd H p u) → RelO g as' (upd H p u) o p) :
    Fr0 as ⟨as.l ++ [p], h2⟩ H (upd H p u) ∧ SR g ⟨as.l ++ [p], h2⟩ (upd H p u) (m ++ [o]) ∧ (as.l ++ [p])[m.length]? = some p := by
  have f : Fr0 as ⟨as.l ++ [p], h2⟩ H (upd H p u) := ⟨fun n a e => by
      show (as.l ++ [p])[n]? = some a
      rw [List.getElem?_append_left (List.getElem?_eq_some_iff.mp e).1]; exact e,
    fun b w hb _ q => by rw [upd_ne (show b ≠ p from fun z => hb (by rw [z]; exact AS.mem_h hp))]; exact q, fun b hb => by
      rcases hb with q | q
      · rcases List.mem_append.mp q with q | q
        · exact .inl (AS.mem_l q)
        · rw [List.mem_singleton.mp q]; exact .inl (AS.mem_h hp)
      · exact .inl (AS.mem_h (hs b q).1)⟩
  have nl := (s.hok p hp).1
  have last : (as.l ++ [p])[m.length]? = some p := by rw [← s.len]; simp
  refine ⟨f, ⟨by show (as.l ++ [p]).length = _; simp [s.len], ?_, fun k b v e1 e2 => ?_, fun b hb => ?_, tabs_upd s.tabs (fun o z => by obtain ⟨_, w, q, pw⟩ := s.hok p hp; rw [q] at z; cases z; exact pw)⟩, last⟩
  · show (as.l ++ [p]).Nodup
    rw [List.nodup_append]
    exact ⟨s.nd, by simp, fun a ha b hb z => by rw [List.mem_singleton.mp hb] at z; exact nl (z ▸ ha)⟩
  · by_cases hk : k < as.l.length
    · have e1 : (as.l ++ [p])[k]? = some b := e1
      rw [List.getElem?_append_left hk] at e1
      rw [List.getElem?_append_left (by rw [← s.len]; exact hk)] at e2
      have r := s.ok k b v e1 e2
      exact r.fr f fun w q => by rw [upd_ne (show b ≠ p from fun z => nl (by rw [← z]; exact List.mem_of_getElem? e1))]; exact q
    · have hk2 : k = as.l.length := by
        have := (List.getElem?_eq_some_iff.mp (show (as.l ++ [p])[k]? = some b from e1)).1
        simp at this
        omega
      subst hk2
      have e1 : (as.l ++ [p])[as.l.length]? = some b := e1
      rw [s.len] at e1 e2
      rw [last] at e1; cases e1
      simp at e2
      subst e2
      exact ho _ f
  · obtain ⟨h3, h4⟩ := hs b hb
    obtain ⟨h1, w, q, pw⟩ := s.hok b h3
    refine ⟨fun z => ?_, w, by rw [upd_ne h4]; exact q, pw⟩
    rcases List.mem_append.mp (show b ∈ as.l ++ [p] from z) with z | z
    · exact h1 z
    · exact h4 (List.mem_singleton.mp z)
theorem w_dctL {keys : List (Option Expr)} {values : List Expr} {ks : List Key} {t : WA} (h : PPK X E pos keys values ks t) (h0 : keys ≠ []) (h15 : keys.length ≤ 15) (hnd : ks.Nodup) : PE X (.Dict keys values pos) (tM (gOf X) E (wDctL ks t)) := by
  obtain ⟨⟨trs, h1, h2⟩, l1, l2, l3⟩ := h
  refine PE_mono (pe_freeze (pe_disp h1 l3 (by rw [l1, l2]) h0 h15)) fun σ H Q ⟨as, d, m, R, Z, sr, rs, h, ok, ex⟩ => ?_
  intro p hp
  obtain ⟨f0, s0⟩ := sr.hide (u := .dK []) hp
  refine h2 σ _ _ ⟨_, d, m, _, Z, s0, rs.fr0 f0, h, fun ws m1 ps H1 as1 f1 s1 ⟨vs, e, r1, hl⟩ q => ?_, fun x m2 H2 as2 cls dd f2 s2 r2 z => ?_⟩
  · subst e
    have hpm : p ∈ as1.h := by rw [f1.hid]; exact List.mem_cons_self
    have ep : H1 p = some (.dK []) := f1.hkeep p _ List.mem_cons_self upd_same
    have hlv : vs.length = ks.length := by rw [← r1.length]; exact hl
    refine ⟨ep, ks.zip vs, ?_, ?_, ?_⟩
    · exact zip_kK ks vs
    · rw [List.length_zip, hlv, Nat.min_self, ← l1]; exact h15
    · have hz : ((ks.zip vs).map (·.1)) = ks := by
        rw [List.map_fst_zip]
        simp [hlv]
      have em : mergeK [] (ks.zip vs) = ks.zip vs := by
        rw [mergeK_nodup _ _ (by
          rw [List.nil_append, hz]
          exact hnd)]
        rfl
      rw [em]
      refine ⟨p, _, rfl, upd_same, trivial, fun od => ?_⟩
      rw [upd_upd]
      have hsub : ∀ b ∈ as.h, b ∈ as1.h ∧ b ≠ p := fun b hb => ⟨by rw [f1.hid]; exact List.mem_cons_of_mem _ hb, fun z => by
        obtain ⟨_, u, e, _⟩ := sr.hok b hb
        rw [z, hp] at e; cases e⟩
      obtain ⟨f2, s2, last⟩ := s1.unhide (u := .frz od (.dK (ks.zip vs))) (o := .dcl od (ks.zip vs) (ks.zip ws)) (h2 := as.h) hpm hsub (fun as' f => ⟨upd_same, zip_rel (r1.fr0 f) (by simp [hl])⟩)
      have F : Fr as ⟨as1.l ++ [p], as.h⟩ H (upd H1 p (.frz od (.dK (ks.zip vs)))) := by
        have G := f0.trans (f1.toFr0.trans f2)
        refine ⟨⟨G.ext, G.keep, G.fresh⟩, rfl, fun b o hb q => ?_⟩
        have hbp : b ≠ p := (hsub b hb).2
        rw [upd_ne hbp]
        exact f1.hkeep b o (List.mem_cons_of_mem _ hb) (by rw [upd_ne hbp]; exact q)
      exact ok _ _ _ _ _ F s2 (.ref last) (q od _)
  · -- an exception on the way: the hidden dict is let go
    obtain ⟨f3, s3⟩ := s2.less (h2 := as.h) (fun b hb => by rw [f2.hid]; exact List.mem_cons_of_mem _ hb)
    have F : Fr as ⟨as2.l, as.h⟩ H H2 := by
      have G := f0.trans f2.toFr0
      refine ⟨⟨G.ext, G.keep, fun b hb => ?_⟩, rfl, fun b o hb q => ?_⟩
      · rcases hb with z | z
        · exact G.fresh b (AS.mem_l z)
        · exact .inl (AS.mem_h z)
      · have hbp : b ≠ p := fun z => by rw [z, hp] at q; cases q
        exact f2.hkeep b o (List.mem_cons_of_mem _ hb) (by rw [upd_ne hbp]; exact q)
    obtain ⟨C, c1, c2, c0, c3⟩ := r2
    refine ex x m2 H2 _ cls dd F s3 ⟨C, c1, c2, c0, fun hx => ?_⟩ z
    obtain ⟨de, vs, e1, e2, e3, e4⟩ := c3 hx
    refine ⟨de, vs, e1, fun z => e2 ?_, e3, Paired.mapP e4 fun _ _ q => ⟨q.1, q.2.fr0 f3⟩⟩
    rcases z with z | z
    · exact AS.mem_l z
    · exact AS.mem_h (by rw [f2.hid]; exact List.mem_cons_of_mem _ z)
def strsL : List W → Option (List Str)
  | [] => some []
  | .str z :: r => (match strsL r with
    | some l => some (z :: l)
    | none => none)
  | _ => none
theorem strsL_rel {g : GE} {as : AS} {H : Hp} : ∀ {ws : List W} {vs : List V} {ys : List Str}, RelWs g as H ws vs → strsL ws = some ys → vs = ys.map V.str
  | _, _, _, .nil, e => by cases e; rfl
  | w :: ws, _, ys, .cons (v := v) r t, e => by
    cases w with
    | str z =>
      simp only [strsL] at e
      cases q : strsL ws with
      | none => rw [q] at e; cases e
      | some l =>
        rw [q] at e
        cases e
        rw [List.map_cons, ← strsL_rel t q, relStr r]
    | _ => cases e
def mJoin : WM := fun x ws m R => match x, ws with
  | .str a, [y] => (match seqOf m y with
    | some l => (match strsL l with
      | some ys => (ys.map (·.length)).sum + ys.length * a.length ≤ 16777216 ∧ R (.str (Txt.join a ys)) m
      | none => False)
    | none => False)
  | _, _ => False
theorem mw_join : MtR X "str.join" (rWM (gOf X) mJoin) := by
  intro pins s σ H x xs v us Q I rx rv ⟨as, wx, ws, m, R, sr, r1, r2, q, ok⟩
  unfold mJoin at q
  split at q
  · rename_i a y
    obtain ⟨vy, rfl, ry⟩ := r2.one
    cases e : seqOf m y with
    | none => rw [e] at q; exact q.elim
    | some l =>
      rw [e] at q
      simp only [] at q
      cases e2 : strsL l with
      | none => rw [e2] at q; exact q.elim
      | some ys =>
        rw [e2] at q
        obtain ⟨b, vs, rfl, k2, k3⟩ := relSeq sr ry e
        rw [strsL_rel k3 e2] at k2
        exact mt_join pins s σ H _ _ v us Q I rx rv ⟨a, b, ys, relStr r1, rfl, k2, q.1, ok _ m _ H as (Fr.refl _ _) sr (.str _) q.2⟩
  · exact q.elim
theorem strs_relW {g : GE} {as : AS} {H : Hp} : ∀ ys : List Str, RelWs g as H (ys.map W.str) (ys.map V.str)
  | [] => .nil
  | y :: r => .cons (.str y) (strs_relW r)
def mSplit : WM := fun x ws m R => match x, ws with
  | .str a, [.str b] => (b.length == 0) = false ∧ a.length + 2 ≤ sizeLine ∧ R (.lst ((Txt.split a b).map W.str)) m
  | _, _ => False
theorem mw_split : MtR X "str.split" (rWM (gOf X) mSplit) := by
  intro pins s σ H x xs v us Q I rx rv ⟨as, wx, ws, m, R, sr, r1, r2, q, ok⟩
  unfold mSplit at q
  split at q
  · rename_i a b
    obtain ⟨vy, rfl, ry⟩ := r2.one
    exact mt_split pins s σ H _ _ v us Q I rx rv ⟨a, b, relStr r1, by rw [relStr ry], q.1, q.2.1, fun p hp => new_lst sr (strs_relW _) ok q.2.2 hp⟩
  · exact q.elim
def mWords : WM := fun x ws m R => match x, ws with
  | .str a, [] => a.length + 2 ≤ sizeLine ∧ R (.lst ((Txt.words a).map W.str)) m
  | _, _ => False
theorem mw_words : MtR X "str.split" (rWM (gOf X) mWords) := by
  intro pins s σ H x xs v us Q I rx rv ⟨as, wx, ws, m, R, sr, r1, r2, q, ok⟩
  unfold mWords at q
  split at q
  · rename_i a
    cases r2
    exact mt_words pins s σ H _ _ v us Q I rx rv ⟨a, relStr r1, rfl, q.1, fun p hp => new_lst sr (strs_relW _) ok q.2 hp⟩
  · exact q.elim
def mPart : WM := fun x ws m R => match x, ws with
  | .str a, [.str b] => (b.length == 0) = false ∧ a.length ≤ sizeLine ∧ R (.tup [.str (Txt.partition a b).1, .str (Txt.partition a b).2.1, .str (Txt.partition a b).2.2]) m
  | _, _ => False
theorem mw_part : MtR X "str.partition" (rWM (gOf X) mPart) := by
  intro pins s σ H x xs v us Q I rx rv ⟨as, wx, ws, m, R, sr, r1, r2, q, ok⟩
  unfold mPart at q
  split at q
  · rename_i a b
    obtain ⟨vy, rfl, ry⟩ := r2.one
    exact mt_partitionF pins s σ H _ _ v us Q I rx rv ⟨a, b, relStr r1, by rw [relStr ry], q.1, q.2.1, new_tup sr (.cons (.str _) (.cons (.str _) (.cons (.str _) .nil))) ok q.2.2⟩
  · exact q.elim
def mLstrip : WM := fun x ws m R => match x, ws with
  | .str a, [] => a.length ≤ sizeLine ∧ R (.str (Txt.lstrip a)) m
  | _, _ => False
theorem mw_lstrip : MtR X "str.lstrip" (rWM (gOf X) mLstrip) := by
  intro pins s σ H x xs v us Q I rx rv ⟨as, wx, ws, m, R, sr, r1, r2, q, ok⟩
  unfold mLstrip at q
  split at q
  · rename_i a
    cases r2
    exact mt_lstrip pins s σ H _ _ v us Q I rx rv ⟨a, relStr r1, rfl, q.1, ok _ m _ H as (Fr.refl _ _) sr (.str _) q.2⟩
  · exact q.elim
def mRstrip : WM := fun x ws m R => match x, ws with
  | .str a, [] => a.length ≤ sizeLine ∧ R (.str (Txt.rstrip a)) m
  | _, _ => False
theorem mw_rstrip : MtR X "str.rstrip" (rWM (gOf X) mRstrip) := by
  intro pins s σ H x xs v us Q I rx rv ⟨as, wx, ws, m, R, sr, r1, r2, q, ok⟩
  unfold mRstrip at q
  split at q
  · rename_i a
    cases r2
    exact mt_rstrip pins s σ H _ _ v us Q I rx rv ⟨a, relStr r1, rfl, q.1, ok _ m _ H as (Fr.refl _ _) sr (.str _) q.2⟩
  · exact q.elim
/-- str(x) -/
def fStr : WF := fun ws m R => match ws with
  | [.int i] => i.natAbs.log2 < 1920 ∧ R (.str (toString i)) m
  | [.str z] => R (.str z) m
  | _ => False
theorem cw_str : CallW X (.type "str") fStr := by
  intro pins s σ H xs us Q I r ⟨as, ws, m, R, sr, rs, q, ok⟩
  unfold fStr at q
  split at q
  · rename_i i
    obtain ⟨v1, rfl, r1⟩ := rs.one
    exact call_str_int pins s σ H _ us Q I r ⟨i, by rw [relInt r1], q.1, ok _ m _ H as (Fr.refl _ _) sr (.str _) q.2⟩
  · rename_i z
    obtain ⟨v1, rfl, r1⟩ := rs.one
    exact SkE.call_str_str pins s σ H _ us Q I r ⟨z, by rw [relStr r1], ok _ m _ H as (Fr.refl _ _) sr (.str _) q⟩
  · exact q.elim
end
end FW

namespace FW
open PySem PySem.Spec L2
def startW (N : List Str) (ws : List W) : List (Option W) := ws.map some ++ List.replicate (N.length - ws.length) none
/-- the ends of a def's body -/
def endW (R : WR) (Z : WZ) : EW := { nx := fun _ m => R .non m, rt := R, ex := Z }
def wordCls : List Str := ["BadNumber", "BadCondition", "BadText", "BadRules", "BadMessage", "NoValue", "NoForm", "BadName", "NoKey", "Ring", "Nothing"]
end FW

namespace FW
open PySem PySem.Spec L2
/-- a class with its field f: no class above has the name -/
def FlOk (g : GE) (c f : Str) : Prop := ∃ C, g.mg c = some (.ref C) ∧ Cls g.K C ∧ NoAttr g.K C f
/-- a class's method keeps con: called with n values besides the instance -/
def MtW (P : Program) (w : World) (K : PySem.W.Frag) (mg : Str → Option Value) (k : Nat) (c m : Str) (n : Nat) (con : Con) : Prop :=
  ∃ C f, mg c = some (.ref C) ∧ Cls K C ∧ Meth K C m f ∧ ∀ base, GB K mg base → ∃ (fd : FuncData) (ps : List Str), ps.length = n + 1 ∧ Binds K fd ps [] ∧ FnOk P w K mg base (CX P w) k f fd ps (spW ⟨K, w, mg⟩ (n + 1) con)
/-- a class is made by an __init__ that keeps con -/
def MkW (P : Program) (w : World) (K : PySem.W.Frag) (mg : Str → Option Value) (k : Nat) (c : Str) (n : Nat) (con : Con) : Prop :=
  ∃ C f j, j + 1 ≤ k ∧ mg c = some (.ref C) ∧ L2.Mk K C f ∧ ∀ base, GB K mg base → ∃ (fd : FuncData) (ps : List Str), ps.length = n + 1 ∧ Binds K fd ps [] ∧ FnOk P w K mg base (CX P w) j f fd ps (spW ⟨K, w, mg⟩ (n + 1) con)
theorem MtW.mono {P : Program} {w : World} {K : PySem.W.Frag} {mg : Str → Option Value} {j k : Nat} {c m : Str} {n : Nat} {con : Con} (F : MtW P w K mg j c m n con) (h : j ≤ k) : MtW P w K mg k c m n con := by
  obtain ⟨C, f, h1, h2, h3, h4⟩ := F
  refine ⟨C, f, h1, h2, h3, fun base gb => ?_⟩
  obtain ⟨fd, ps, q1, q2, q3⟩ := h4 base gb
  exact ⟨fd, ps, q1, q2, q3.mono h⟩
theorem MkW.mono {P : Program} {w : World} {K : PySem.W.Frag} {mg : Str → Option Value} {j k : Nat} {c : Str} {n : Nat} {con : Con} (F : MkW P w K mg j c n con) (h : j ≤ k) : MkW P w K mg k c n con := by
  obtain ⟨C, f, i, hi, h1, h2, h4⟩ := F
  exact ⟨C, f, i, by omega, h1, h2, h4⟩
/-- the instance behind a value -/
def insOf (m : Sto) : W → Option (Nat × Str × List (Str × W))
  | .ref n => (match m[n]? with
    | some (.ins c fs) => some (n, c, fs)
    | _ => none)
  | _ => none
section
variable {X : Cx} {E : XK} {pos : Pos}
theorem insOf_ok {m : Sto} {w : W} {n : Nat} {c : Str} {fs : List (Str × W)} (h : insOf m w = some (n, c, fs)) : w = .ref n ∧ m[n]? = some (.ins c fs) := by
  unfold insOf at h
  split at h
  · split at h
    · cases h
      exact ⟨rfl, by assumption⟩
    · cases h
  · cases h
theorem ins_val {g : GE} {as : AS} {H : Hp} {f : Str} : ∀ {fs : List (Str × W)} {vs : List (Str × V)}, Paired (fun (p : Str × W) (q : Str × V) => p.1 = q.1 ∧ RelW g as H p.2 q.2) fs vs → (valW fs f = none ∧ vs.lookup f = none) ∨ ∃ w v, valW fs f = some w ∧ vs.lookup f = some v ∧ RelW g as H w v
  | _, _, .nil => .inl ⟨rfl, rfl⟩
  | (x, w) :: fs, (y, v) :: vs, .cons h t => by
    obtain ⟨h1, h2⟩ := h
    simp only at h1 h2
    subst h1
    by_cases hz : x = f
    · subst hz
      refine .inr ⟨w, v, ?_, ?_, h2⟩
      · simp [valW]
      · simp [List.lookup]
    · have e1 : valW ((x, w) :: fs) f = valW fs f := by simp [valW, hz]
      have e2 : List.lookup f ((x, v) :: vs) = vs.lookup f := by
        have : (f == x) = false := beq_eq_false_iff_ne.mpr fun e => hz e.symm
        simp [List.lookup, this]
      rw [e1, e2]
      exact ins_val t
theorem ins_put {g : GE} {as : AS} {H : Hp} {f : Str} {w : W} {v : V} (r : RelW g as H w v) : ∀ {fs : List (Str × W)} {vs : List (Str × V)}, Paired (fun (p : Str × W) (q : Str × V) => p.1 = q.1 ∧ RelW g as H p.2 q.2) fs vs →
    Paired (fun (p : Str × W) (q : Str × V) => p.1 = q.1 ∧ RelW g as H p.2 q.2) (putW fs f w) (putF f v vs)
  | _, _, .nil => .cons ⟨rfl, r⟩ .nil
  | (x, w') :: fs, (y, v') :: vs, .cons h t => by
    obtain ⟨h1, h2⟩ := h
    simp only at h1 h2
    subst h1
    by_cases hz : x = f
    · have e1 : putW ((x, w') :: fs) f w = (x, w) :: fs := by simp [putW, hz]
      have e2 : putF f v ((x, v') :: vs) = (x, v) :: vs := by simp [putF, hz]
      rw [e1, e2]
      exact .cons ⟨rfl, r⟩ t
    · have e1 : putW ((x, w') :: fs) f w = (x, w') :: putW fs f w := by simp [putW, hz]
      have e2 : putF f v ((x, v') :: vs) = (x, v') :: putF f v vs := by simp [putF, hz]
      rw [e1, e2]
      exact .cons ⟨rfl, h2⟩ (ins_put r t)
theorem paired_len {α β : Type} {R : α → β → Prop} : ∀ {l : List α} {k : List β}, Paired R l k → l.length = k.length
  | _, _, .nil => rfl
  | _, _, .cons _ t => by simp [paired_len t]
def wFld (cs : List Str) (f : Str) (a : WE) : WE := fun d m R Z => a d m (fun x m1 => match insOf m1 x with
  | some (n, c, fs) => cs.contains c = true ∧ (match valW fs f with
    | some w => R w m1
    | none => False)
  | none => False) Z
theorem w_fld {o : Expr} {f : Str} {cs : List Str} {to : WE} (ho : PE X o (tM (gOf X) E to)) (hc : ∀ c, c ∈ cs → FlOk (gOf X) c f) (hb : attributeBase o f X.env (eval o X.env) = eval o X.env) : PE X (.Attribute o f pos) (tM (gOf X) E (wFld cs f to)) :=
  PE_mono (pe_fld ho hb) fun σ H Q ⟨as, d, m, R, Z, sr, rs, h, ok, ex⟩ => by
    refine ⟨as, d, m, _, Z, sr, rs, h, fun w m1 v H1 as1 f1 s1 r1 h1 => ?_, ex⟩
    split at h1
    · rename_i n c fs e
      obtain ⟨rfl, e2⟩ := insOf_ok e
      obtain ⟨C0, hm0, hcl, hna⟩ := hc c (by simpa using h1.1)
      obtain ⟨a, rfl, ea, C, dx, vs, hm, hH, hp⟩ := relRef s1 r1 e2
      rw [hm0] at hm
      cases hm
      rcases ins_val (f := f) hp with ⟨q, _⟩ | ⟨w, v, q1, q2, q3⟩
      · rw [q] at h1; exact h1.2.elim
      · rw [q1] at h1
        exact ⟨a, C0, dx, vs, v, rfl, hH, hcl, hna, q2, ok w m1 v H1 as1 f1 s1 q3 h1.2⟩
    · exact h1.elim
def gFld (cs : List Str) (f : Str) (o : WE) : WG := fun w d m P => o d m (fun x m1 => match insOf m1 x with
  | some (n, c, fs) => cs.contains c = true ∧ fs.length < 1000 ∧ P d (m1.set n (.ins c (putW fs f w)))
  | none => False) noZ
theorem pg_fld {o : Expr} {f : Str} {to : TE} (ho : PE X o to) : PG X (.Attribute o f pos) (fun v σ H Q => to σ H fun x H1 => ∃ a C dx fs, x = .ref a ∧ H1 a = some (.ins C dx fs) ∧ Cls X.K C ∧ NoAttr X.K C f ∧ fs.length < 1000 ∧ Q σ (upd H1 a (.ins C dx (putF f v fs)))) := by
  refine ⟨fun pins s σ H v u Q I r h => ?_⟩
  rw [PySem.arm_assign_Attribute]
  refine wpAny_bind (wpAny_holding (thn (ho.run pins s σ H _ I h) fun ov s1 ⟨x, H1, I1, r1, a, C, dx, fs, e, hH, hc, hn, hl, q⟩ => ?_))
  subst e
  obtain rfl : ov = Value.ref a := r1
  refine wpAny_bind (wpAny_standAt (wpAny_bind (wpAny_holding ?_)))
  exact setattr_ok I1 hH hc hn hl r fun s2 I2 => wpAny_release ⟨σ, _, I2, q⟩
theorem g_fld {o : Expr} {f : Str} {cs : List Str} {to : WE} (ho : PE X o (tM (gOf X) E to)) (hc : ∀ c, c ∈ cs → FlOk (gOf X) c f) : PG X (.Attribute o f pos) (tMG (gOf X) (gFld cs f to)) :=
  PG_mono (pg_fld ho) fun v σ H Q ⟨as, w, d, m, P, sr, rw', rs, h, lk⟩ => by
    refine ⟨as, d, m, _, noZ, sr, rs, h, fun x m1 vx H1 as1 f1 s1 r1 h1 => ?_, XLk.no⟩
    split at h1
    · rename_i n c fs e
      obtain ⟨rfl, e2⟩ := insOf_ok e
      obtain ⟨C0, hm0, hcl, hna⟩ := hc c (by simpa using h1.1)
      obtain ⟨a, rfl, ea, C, dx, vs, hm, hH, hp⟩ := relRef s1 r1 e2
      have hm' := hm
      rw [hm0] at hm'
      cases hm'
      refine ⟨a, C0, dx, vs, rfl, hH, hcl, hna, by rw [← paired_len hp]; exact h1.2.1, ?_⟩
      have f2 := s1.putFr (u := .ins C0 dx (putF f v vs)) ea
      obtain ⟨_, s2⟩ := s1.put (o := .ins c (putW fs f w)) (u := .ins C0 dx (putF f v vs)) ea ⟨C0, dx, _, hm, upd_same, Paired.mapP (ins_put (rw'.fr f1) hp) fun _ _ z => ⟨z.1, z.2.fr f2⟩⟩
      exact lk d _ σ _ as1 (f1.trans f2) s2 (rs.fr (f1.trans f2)) h1.2.2
    · exact h1.elim
def wMeth (c m : Str) (n : Nat) (con : Con) (o : WE) (t : WA) : WE := fun d s R Z => o d s (fun x m1 => (match insOf m1 x with
  | some (_, c', fs) => (c' == c) = true ∧ (valW fs m).isNone = true
  | none => False) ∧ t d m1 (fun ws m2 => ws.length = n ∧ con (x :: ws) m2 R Z) Z) Z
theorem meth_at {g : GE} {as : AS} {H : Hp} {s : Sto} {c m : Str} {x : W} {v : V} {C : Addr} (sr : SR g as H s) (r : RelW g as H x v) (hC : g.mg c = some (.ref C)) (h : match insOf s x with
  | some (_, c', fs) => (c' == c) = true ∧ (valW fs m).isNone = true
  | none => False) : ∃ a dx vs, v = .ref a ∧ H a = some (.ins C dx vs) ∧ vs.lookup m = none := by
  split at h
  · rename_i n c' fs e
    obtain ⟨rfl, e2⟩ := insOf_ok e
    obtain ⟨h1, h2⟩ := h
    obtain rfl := eq_of_beq h1
    obtain ⟨a, rfl, ea, C', dx, vs, hm, hH, hp⟩ := relRef sr r e2
    rw [hC] at hm
    cases hm
    rcases ins_val (f := m) hp with ⟨_, q⟩ | ⟨w, v, q1, _, _⟩
    · exact ⟨a, dx, vs, rfl, hH, q⟩
    · rw [q1] at h2; cases h2
  · exact h.elim
theorem meth_eval {o : Expr} {m : Str} {apos : Pos} {args : List Expr} (hb : attributeBase o m X.env (eval o X.env) = eval o X.env) (hs : args.all notStar = true) (hl : (apos.endLine == pos.line) = true) (hn : decide (args.length + 0 + 0 < 30) = true) :
    eval (.Call (.Attribute o m apos) args [] pos) X.env = (do
      let ov ← eval o X.env
      standAt apos.atName
      let (f, first) ← holding [ov] (getMethod ov m (do return (← importBound o X.env).getD true))
      callWith pos f first (backTo pos (starEach args X.env)) (backToKw pos (keywordEach [] X.env))) := by
  have hf : methodCallForm (args.length + ([] : List Keyword).length) (backTo pos (starEach args X.env)) (backToKw pos (keywordEach [] X.env)) = true := by
    unfold methodCallForm
    rw [backTo_all hs]
    exact hn
  rw [PySem.arm_eval_Call, hb]
  unfold methodCall calleeOf methodCallPos
  rw [hf]
  simp only [hl, Bool.not_true, Bool.false_or, if_true]
  rfl
theorem w_meth {o e : Expr} {es : List Expr} {c m : Str} {n k : Nat} {con : Con} {to : WE} {t : WA} {apos : Pos} (F : MtW X.prog X.w X.K X.mg k c m n con) (gb : GB X.K X.mg X.base) (hr : Room k X.A) (hx : Passes (CX X.prog X.w) X E) (ho : PE X o (tM (gOf X) E to)) (ha : PA X (e :: es) (tMA (gOf X) E t))
    (hb : attributeBase o m X.env (eval o X.env) = eval o X.env) (hes : (e :: es).all notStar = true) (hl : (apos.endLine == pos.line) = true) (hn : decide ((e :: es).length + 0 + 0 < 30) = true) :
    PE X (.Call (.Attribute o m apos) (e :: es) [] pos) (tM (gOf X) E (wMeth c m n con to t)) := by
  obtain ⟨C, f, h1, h2, h3, h4⟩ := F
  obtain ⟨fd, ps, q1, q2, q3⟩ := h4 _ gb
  have ht := meth_eval (pos := pos) hb hes hl hn
  rw [List.all_cons, Bool.and_eq_true] at hes
  refine PE_mono (pe_meth ho h2 h3 q3 hr q2 .nil hx ha (starEach_plain hes.1) (starEach_any hes.2) ht) fun σ H Q ⟨as, d, m, R, Z, sr, rs, h, ok, ex⟩ => ?_
  refine ⟨as, d, m, _, Z, sr, rs, h, fun x m1 vx H1 as1 f1 s1 r1 hh => ?_, ex⟩
  obtain ⟨a, dx, vs, rfl, hH, hv⟩ := meth_at s1 r1 h1 hh.1
  refine ⟨a, dx, vs, rfl, hH, hv, as1, d, m1, _, Z, s1, rs.fr f1, hh.2, fun ws m2 us H2 as2 f2 s2 r2 h2 => ?_, ex.fr f1⟩
  show spW _ _ _ (V.ref a :: (us ++ [])) H2 Q E
  rw [List.append_nil]
  exact ⟨as2, x :: ws, m2, R, Z, s2, .cons (r1.fr f2) r2, by simp [h2.1], h2.2, fun w3 m3 v3 H3 as3 f3 s3 r3 h3 => ok w3 m3 v3 H3 as3 (f1.trans (f2.trans f3)) s3 r3 h3, ex.fr (f1.trans f2)⟩
theorem w_meth0 {o : Expr} {c m : Str} {k : Nat} {con : Con} {to : WE} {apos : Pos} (F : MtW X.prog X.w X.K X.mg k c m 0 con) (gb : GB X.K X.mg X.base) (hr : Room k X.A) (hx : Passes (CX X.prog X.w) X E) (ho : PE X o (tM (gOf X) E to))
    (hb : attributeBase o m X.env (eval o X.env) = eval o X.env) (hl : (apos.endLine == pos.line) = true) :
    PE X (.Call (.Attribute o m apos) [] [] pos) (tM (gOf X) E (wMeth c m 0 con to wNil)) := by
  obtain ⟨C, f, h1, h2, h3, h4⟩ := F
  obtain ⟨fd, ps, q1, q2, q3⟩ := h4 _ gb
  have ht := meth_eval (args := []) (pos := pos) hb rfl hl rfl
  refine PE_mono (pe_meth0 ho h2 h3 q3 hr q2 .nil hx ht) fun σ H Q ⟨as, d, m, R, Z, sr, rs, h, ok, ex⟩ => ?_
  refine ⟨as, d, m, _, Z, sr, rs, h, fun x m1 vx H1 as1 f1 s1 r1 hh => ?_, ex⟩
  obtain ⟨a, dx, vs, rfl, hH, hv⟩ := meth_at s1 r1 h1 hh.1
  exact ⟨a, dx, vs, rfl, hH, hv, as1, [x], m1, R, Z, s1, .cons r1 .nil, rfl, hh.2.2, fun w3 m3 v3 H3 as3 f3 s3 r3 h3 => ok w3 m3 v3 H3 as3 (f1.trans f3) s3 r3 h3, ex.fr f1⟩
def wMake (c : Str) (n : Nat) (con : Con) (t : WA) : WE := fun d s R Z => t d s (fun ws m1 => ws.length = n ∧ con (.ref m1.length :: ws) (m1 ++ [.ins c []]) (fun v m2 => v = .non ∧ R (.ref m1.length) m2) Z) Z
/-- a new instance and its dict -/
theorem SR.made {g : GE} {as : AS} {H : Hp} {m : Sto} {x dx C : Addr} {c : Str} (s : SR g as H m) (hx : H x = none) (hd : H dx = none) (ne : dx ≠ x) (hm : g.mg c = some (.ref C)) :
    Fr as (as.push x) H (upd (upd H dx (.own x)) x (.ins C dx [])) ∧ SR g (as.push x) (upd (upd H dx (.own x)) x (.ins C dx [])) (m ++ [.ins c []]) ∧ (as.push x).l[m.length]? = some x := by
  have hx1 : upd H dx (.own x) x = none := by rw [upd_ne ne.symm]; exact hx
  have s1 := s.new (o := .own x) hd
  obtain ⟨f, s2, e⟩ := s1.grow (o := .ins c []) (u := .ins C dx []) hx1 (fun as' f => ⟨C, dx, [], hm, upd_same, .nil⟩)
  exact ⟨(Fr.new hd).trans f, s2, e⟩
theorem w_make_of {c : Str} {C : Addr} {n : Nat} {con : Con} {t : WA} {σ : L2.St} {H : Hp} {Q : VK} (hm : X.mg c = some (.ref C)) (h : tM (gOf X) E (wMake c n con t) σ H Q) : tMake C (spW (gOf X) (n + 1) con) [] E (tMA (gOf X) E t) σ H Q := by
  obtain ⟨as, d, m, R, Z, sr, rs, h, ok, ex⟩ := h
  refine ⟨as, d, m, _, Z, sr, rs, h, fun ws m1 vs H1 as1 f1 s1 r1 h1 x dx hx hd ne => ?_, ex⟩
  obtain ⟨f2, s2, e⟩ := s1.made (c := c) hx hd ne hm
  rw [List.append_nil]
  refine ⟨as1.push x, .ref m1.length :: ws, _, _, Z, s2, .cons (.ref e) (r1.fr f2), by simp [h1.1], h1.2, fun w3 m3 v3 H3 as3 f3 s3 r3 h3 => ?_, ex.fr (f1.trans f2)⟩
  obtain ⟨rfl, h3⟩ := h3
  exact ⟨relNon r3, ok _ m3 _ H3 as3 (f1.trans (f2.trans f3)) s3 (.ref (f3.ext _ _ e)) h3⟩
theorem w_make {c : Str} {n k : Nat} {con : Con} {p : Pos} {e : Expr} {es : List Expr} {t : WA} (F : MkW X.prog X.w X.K X.mg k c n con) (gb : GB X.K X.mg X.base) (hr : Room k X.A) (hg : Gl X c) (hx : Passes (CX X.prog X.w) X E) (ha : PA X (e :: es) (tMA (gOf X) E t))
    (hdb : (c == ("__debug__" : Str)) = false) (he : notStar e = true) (hes : es.all notStar = true) : PE X (.Call (.Name c p) (e :: es) [] pos) (tM (gOf X) E (wMake c n con t)) := by
  obtain ⟨C, f, j, hj, h1, h2, h4⟩ := F
  obtain ⟨fd, ps, q1, q2, q3⟩ := h4 _ gb
  exact PE_mono (pe_make h2 q3 (hr.mono hj) hg h1 q2 .nil hx ha hdb (starEach_plain he) (starEach_any hes)) fun σ H Q h => w_make_of h1 h
theorem w_make0 {c : Str} {k : Nat} {con : Con} {p : Pos} (F : MkW X.prog X.w X.K X.mg k c 0 con) (gb : GB X.K X.mg X.base) (hr : Room k X.A) (hg : Gl X c) (hx : Passes (CX X.prog X.w) X E)
    (hdb : (c == ("__debug__" : Str)) = false) : PE X (.Call (.Name c p) [] [] pos) (tM (gOf X) E (wMake c 0 con wNil)) := by
  obtain ⟨C, f, j, hj, h1, h2, h4⟩ := F
  obtain ⟨fd, ps, q1, q2, q3⟩ := h4 _ gb
  refine PE_mono (pe_make0 h2 q3 (hr.mono hj) hg h1 q2 .nil hx hdb) fun σ H Q h => ?_
  obtain ⟨as, d, m, R, Z, sr, rs, h, ok, ex⟩ := h
  intro x dx hx hd ne
  obtain ⟨f2, s2, e⟩ := sr.made (c := c) hx hd ne h1
  refine ⟨as.push x, [.ref m.length], _, _, Z, s2, .cons (.ref e) .nil, rfl, h.2, fun w3 m3 v3 H3 as3 f3 s3 r3 h3 => ?_, ex.fr f2⟩
  obtain ⟨rfl, h3⟩ := h3
  exact ⟨relNon r3, ok _ m3 _ H3 as3 (f2.trans f3) s3 (.ref (f3.ext _ _ e)) h3⟩
end
end FW

namespace FW
open PySem PySem.Spec L2
section
variable {X : Cx} {E : XK} {pos : Pos}
/-- {x} -/
def wFmt (a : WE) : WE := fun d m R Z => a d m (fun x m1 => match x with
  | .str y => y.length ≤ sizeLine ∧ R (.str y) m1
  | .int i => i.natAbs.log2 < 1920 ∧ R (.str (toString i)) m1
  | _ => False) Z
theorem w_fmt {e : Expr} {te : WE} (he : PE X e (tM (gOf X) E te)) : PE X (.FormattedValue e (-1) none pos) (tM (gOf X) E (wFmt te)) :=
  PE_mono (pe_fmt he) fun σ H Q ⟨as, d, m, R, Z, sr, rs, h, ok, ex⟩ => by
    refine ⟨as, d, m, _, Z, sr, rs, h, fun w m1 v H1 as1 f1 s1 r1 h1 => ?_, ex⟩
    split at h1
    · exact .inl ⟨_, relStr r1, h1.1, ok _ m1 _ H1 as1 f1 s1 (.str _) h1.2⟩
    · exact .inr ⟨_, relInt r1, h1.1, ok _ m1 _ H1 as1 f1 s1 (.str _) h1.2⟩
    · exact h1.elim
/-- the texts one behind the other -/
def wJs : List WE → Str → List (Option W) → Sto → (Str → Sto → Prop) → WZ → Prop
  | [], acc, _, m, R, _ => R acc m
  | t :: ts, acc, d, m, R, Z => t d m (fun x m1 => match x with
    | .str y => (acc ++ y).length ≤ sizeLine ∧ wJs ts (acc ++ y) d m1 R Z
    | _ => False) Z
def wJoined (ts : List WE) : WE := fun d m R Z => wJs ts Str.empty d m (fun out m1 => R (.str out) m1) Z
inductive PJW (X : Cx) (E : XK) : List Expr → List WE → Prop where
  | nil : PJW X E [] []
  | cons {e : Expr} {t : WE} {es : List Expr} {ts : List WE} (h : PE X e (tM (gOf X) E t)) (r : PJW X E es ts) : PJW X E (e :: es) (t :: ts)
theorem pjw_pj {es : List Expr} {ts : List WE} (h : PJW X E es ts) : PJ X es (ts.map fun t => tM (gOf X) E t) := by
  induction h with
  | nil => exact .nil
  | cons h _ ih => exact .cons h ih
theorem js_of {σ : L2.St} {Q : Str → Hp → Prop} {d : List (Option W)} {Z : WZ} {R : Str → Sto → Prop} : ∀ (ts : List WE) (acc : Str) {as : AS} {H : Hp} {m : Sto}, SR (gOf X) as H m → RelS (gOf X) as H σ d → wJs ts acc d m R Z → (∀ a m' H' as', Fr as as' H H' → SR (gOf X) as' H' m' → R a m' → Q a H') → XLk (gOf X) E as H Z →
    tJs (ts.map fun t => tM (gOf X) E t) acc σ H Q
  | [], acc, as, H, m, sr, rs, h, ok, ex => ok acc m H as (Fr.refl _ _) sr h
  | t :: ts, acc, as, H, m, sr, rs, h, ok, ex => by
    refine ⟨as, d, m, _, Z, sr, rs, h, fun w m1 v H1 as1 f1 s1 r1 h1 => ?_, ex⟩
    split at h1
    · exact ⟨_, relStr r1, h1.1, js_of ts _ s1 (rs.fr f1) h1.2 (fun a m' H' as' f2 s2 r2 => ok a m' H' as' (f1.trans f2) s2 r2) (ex.fr f1)⟩
    · exact h1.elim
theorem w_joined {v1 v2 : Expr} {rest : List Expr} {ts : List WE} (h : PJW X E (v1 :: v2 :: rest) ts) : PE X (.JoinedStr (v1 :: v2 :: rest) pos) (tM (gOf X) E (wJoined ts)) :=
  PE_mono (pe_joined (pjw_pj h)) fun σ H Q ⟨as, d, m, R, Z, sr, rs, h, ok, ex⟩ =>
    js_of ts _ sr rs h (fun a m' H' as' f s r => ok _ m' _ H' as' f s (.str a) r) ex
def mLstrip1 : WM := fun x ws m R => match x, ws with
  | .str a, [.str b] => a.length ≤ sizeLine ∧ R (.str (Txt.lstripChars a b)) m
  | _, _ => False
theorem mw_lstrip1 : MtR X "str.lstrip" (rWM (gOf X) mLstrip1) := by
  intro pins s σ H x xs v us Q I rx rv ⟨as, wx, ws, m, R, sr, r1, r2, q, ok⟩
  unfold mLstrip1 at q
  split at q
  · rename_i a b
    obtain ⟨vy, rfl, ry⟩ := r2.one
    exact mt_lstripChars pins s σ H _ _ v us Q I rx rv ⟨a, b, relStr r1, by rw [relStr ry], q.1, ok _ m _ H as (Fr.refl _ _) sr (.str _) q.2⟩
  · exact q.elim
def mRstrip1 : WM := fun x ws m R => match x, ws with
  | .str a, [.str b] => a.length ≤ sizeLine ∧ R (.str (Txt.rstripChars a b)) m
  | _, _ => False
theorem mw_rstrip1 : MtR X "str.rstrip" (rWM (gOf X) mRstrip1) := by
  intro pins s σ H x xs v us Q I rx rv ⟨as, wx, ws, m, R, sr, r1, r2, q, ok⟩
  unfold mRstrip1 at q
  split at q
  · rename_i a b
    obtain ⟨vy, rfl, ry⟩ := r2.one
    exact mt_rstripChars pins s σ H _ _ v us Q I rx rv ⟨a, b, relStr r1, by rw [relStr ry], q.1, ok _ m _ H as (Fr.refl _ _) sr (.str _) q.2⟩
  · exact q.elim
end
end FW

namespace FW
open PySem PySem.Spec L2 PyProof.Rows
theorem tuple_keys_none : typeLookup (.type "tuple") "keys" = pure none := am_miss_of_fast (by first | decide +kernel | rfl)
section
variable {prog : Program} {w : World} {A : Around} {E : Value → Shared → Prop}
theorem miss_tuple {s : Shared} {a : Addr} {o : Obj} {xs : Array Value} {k : Nat} {Q : Option Value → Shared → Prop} (hx : s.heap.get? a = some o) (hc : o.cls = .type "tuple") (hdat : o.data = .seq xs k) (hd : o.dict = none) (hA : A.handled = none)
    (h : ∀ h' tk, (∀ b ob, s.heap.get? b = some ob → h'.get? b = some ob) → Q none { s with heap := h', toks := tk }) : wpAny (model prog w) A (getAttr? (.ref a) "keys") Q E s := by
  obtain ⟨c, dct, dat, sl⟩ := o
  simp only at hc hdat hd
  subst hc hdat hd
  obtain ⟨hp, g, d, tk, os⟩ := s
  have hT : ∀ tk', (⟨hp, g, d, tk', os⟩ : Shared).TypeIs (.ref a) "tuple" := fun _ => ⟨_, hx, rfl⟩
  have hmiss := tuple_keys_none
  have hname : (["__module__", "__name__", "__qualname__", "__doc__", "__annotations__"] : List Str).contains "keys" = false := by decide +kernel
  have hsz : ("keys" : Str).length + 100 ≤ sizeLine := by first | size_fits | decide +kernel
  have f1 := sub_AttributeError
  have f3 := PySem.F.slot_tuple_getattribute.lookup
  have f4 := PySem.F.slot_tuple_getattribute.bind (.ref a)
  have f5 := am_tuple_getattr_none
  unfold getAttr? getAttrBy? getAttrBy
  repeat (any_goals (first | assumption | exact hT _ | ((with_reducible show wpAny _ _ (call (Value.builtin "tuple.__getattribute__") _ _) _ _ _); refine call_meets PySem.F.slot_tuple_getattribute (hT _) am_entry_tuple_getattribute (PySem.F.args_tuple_getattribute_2 _ _) (meets_getattribute_miss_tuple a xs k sl "keys" _ hmiss hname hsz) ⟨hx, hA, fun h' tk' e hx' => ?_⟩) | wp_step))
  obtain ⟨t', u', he⟩ := hx'.there
  show wpAny _ _ (getattributeRaised _ _ _ _ _ _ _) _ _ _
  unfold getattributeRaised
  repeat (any_goals (first | assumption | wp_step))
  all_goals first | exact h _ _ hx'.keeps | (dsimp only; repeat (any_goals (first | assumption | exact h _ _ hx'.keeps | wp_step)))
/-- the walk over the pairs -/
theorem upd_loopT {R : Result → Shared → Prop} {S I l : Addr} {items : Array Value} {res : Value} (hh : A.handled = none) (hlI : l ≠ I) (hSI : S ≠ I) (hSl : S ≠ l) :
    ∀ (rest : List (Key × Value)) (i : Nat) (acc : List (Key × Value)) (ix : Int) (t : Tok) (s : Shared), items.size = i + rest.length → acc.length + rest.length ≤ sizeLine →
      (∀ (j : Nat) (q : Key × Value), rest[j]? = some q → ∃ (b : Addr) (u : Value), items[i + j]? = some (.ref b) ∧ b ≠ S ∧ b ≠ I ∧ IsTup s.heap b #[u, q.2] ∧ keyIs q.1 u = true) →
      s.heap.IsTupleIter I l i → s.heap.IsTuple l items → s.heap.DictOf (mixKind prog w) S acc →
      (∀ h' tk, h'.DictOf (mixKind prog w) S (merged acc rest) → (∀ b o, b ≠ S → b ≠ I → s.heap.get? b = some o → h'.get? b = some o) → R (.ok (.ret res)) { s with heap := h', toks := tk }) →
      codeAny (model prog w) A (.builtin "dict.update.loop" ⟨[.ref S, .ref I, .int ix t, res], []⟩) R s
  | [], i, acc, ix, t, s, hsz, hln, ht, hit, hl, hm, hR => by
    refine codeAny_builtin ud_entry ?_
    rw [Around.under_plainId ud_plain _]
    show wpAny _ A.in1 (pyNext (.ref I) >>= _) _ _ s
    refine wpAny_bind (wpAny_pyNext_tuple_end (A := A.in1) hh hit hl (by first | exact Array.getElem?_eq_none (Nat.le_of_eq hsz) | (simp at hsz; simp; omega)) fun h' he => ?_)
    show wpAny _ A.in1 (Builtin.Dict.addKeywords S [] >>= _) _ _ _
    refine wpAny_bind (wpAny_pure (wpAny_pure ?_))
    exact hR h' s.toks (hm.extBut he hSI) fun b o _ hb e => he b o hb e
  | q :: rest, i, acc, ix, t, s, hsz, hln, ht, hit, hl, hm, hR => by
    obtain ⟨b, u, hb, hbS, hbI, htup, hk⟩ := ht 0 q rfl
    rw [List.length_cons] at hsz hln
    refine codeAny_builtin ud_entry ?_
    rw [Around.under_plainId ud_plain _]
    show wpAny _ A.in1 (pyNext (.ref I) >>= _) _ _ s
    refine wpAny_bind (wpAny_pyNext_tuple_item (x := .ref b) hit hl (by simpa using hb) fun h1 hit1 hs1 => ?_)
    have ht1 : IsTup h1 b #[u, q.2] := htup.extBut hs1.extBut hbI
    have hl1 : h1.IsTuple l items := hl.extBut hs1.extBut hlI
    have hm1 : h1.DictOf (mixKind prog w) S acc := hm.extBut hs1.extBut hSI
    obtain ⟨o, ho, hc, n, hd⟩ := id ht1
    show wpAny _ A.in1 (holding [Value.ref b] _ >>= _) _ _ _
    refine wpAny_bind (wpAny_holding ?_)
    refine wpAny_bind (wpAny_tryCatch ?_)
    unfold Builtin.Dict.pairItems
    refine wpAny_bind (wpAny_typeOf (T := "tuple") ⟨o, ho, hc⟩ ?_)
    rw [if_pos (by first | decide | rfl | simp)]
    refine wpAny_bind (wpAny_seqItems ho hd (wpAny_pure ?_))
    show wpAny _ A.in1 (holding [u, q.2] (dictSet S u q.2)) _ _ _
    refine wpAny_holding (wpAny_dictSet_pairs (knd := mixKind prog w) (k := q.1) hk hm1 (fun h2 hm2 hs2 => ?_) (by omega))
    refine wpAny_pure ⟨plainId_quiet ud_plain _, upd_loopT (items := items) hh hlI hSI hSl rest (i + 1) (stored acc q.1 q.2) (ix + 1) 0 _ (show items.size = i + 1 + rest.length by omega) ?_ (fun j q' e => ?_) ?_ ?_ hm2 fun h' tk hd' k => ?_⟩
    · have z := stored_length_le acc q.1 q.2
      omega
    · obtain ⟨b', u', hb', hbS', hbI', htup', hk'⟩ := ht (j + 1) q' (by simpa using e)
      refine ⟨b', u', ?_, hbS', hbI', (htup'.extBut hs1.extBut hbI').extBut hs2.extBut hbS', hk'⟩
      rw [show i + 1 + j = i + (j + 1) by omega]
      exact hb'
    · exact hit1.at fun o' e => hs2.extBut I o' (Ne.symm hSI) e
    · exact hl1.extBut hs2.extBut (Ne.symm hSl)
    · exact hR h' tk hd' fun c oc h3 h4 e => k c oc h3 h4 (hs2.extBut c oc h3 (hs1.extBut c oc h4 e))
theorem call_dict_pairsT {s : Shared} {l : Addr} {ol : Obj} {items : Array Value} {n : Nat} {prs : List (Key × Value)} {Q : Value → Shared → Prop} (hh : A.handled = none) (hl : s.heap.get? l = some ol) (hc : ol.cls = .type "tuple") (hd : ol.dict = none)
    (hdat : ol.data = .seq items n) (hsz : items.size = prs.length) (hln : prs.length ≤ sizeLine)
    (ht : ∀ (j : Nat) (q : Key × Value), prs[j]? = some q → ∃ (b : Addr) (u : Value), items[j]? = some (.ref b) ∧ IsTup s.heap b #[u, q.2] ∧ keyIs q.1 u = true)
    (h : ∀ h' tk, h'.DictOf (mixKind prog w) s.heap.objs.size (merged [] prs) → (∀ b o, s.heap.get? b = some o → h'.get? b = some o) → Q (.ref s.heap.objs.size) { s with heap := h', toks := tk }) :
    wpAny (model prog w) A (call (.type "dict") [.ref l]) Q E s := by
  refine callType_codes (Q₁ := fun obj s₁ => obj = .ref s.heap.objs.size ∧ s₁ = { s with heap := s.heap.push { cls := .type "dict", data := .dict #[] } }) PySem.F.kt_called_dict (PySem.F.kt_typeCall_dict_1 _) PySem.F.entry_dict_init (kt_code_dict_new _ ⟨rfl, rfl⟩) ?_
  rintro obj s₁ ⟨rfl, rfl⟩
  have hnew : (s.heap.push { cls := .type "dict", data := .dict #[] }).DictOf (mixKind prog w) s.heap.objs.size [] := Heap.DictOf.new s.heap
  have k0 : ∀ b o, s.heap.get? b = some o → (s.heap.push { cls := .type "dict", data := .dict #[] }).get? b = some o := fun b o e => Heap.get?_push_of_some _ e
  refine ⟨hnew.typeIs, PySem.F.args_dict_init_2 _ _, ?_⟩
  unfold Builtin.«dict.__init__»
  refine wpAny_bind ?_
  unfold Builtin.Dict.selfAndRest
  refine wpAny_bind (wpAny_notOrdered_dict hnew.typeIs ?_)
  show wpAny _ _ (pure (s.heap.objs.size, [Value.ref l])) _ _ _
  refine wpAny_pure ?_
  show wpAny _ _ (Builtin.Dict.updateFrom "dict.__init__" s.heap.objs.size (.ref l) [] .none) _ _ _
  unfold Builtin.Dict.updateFrom
  refine wpAny_bind (wpAny_typeOf (T := "tuple") ⟨ol, k0 _ _ hl, hc⟩ ?_)
  rw [if_pos (by first | decide | rfl | simp)]
  refine wpAny_bind (miss_tuple (k0 _ _ hl) hc hdat hd hh fun h1 tk1 hk1 => ?_)
  rw [if_pos (show (none : Option Value).isNone = true from rfl)]
  refine wpAny_bind (wpAny_rule ?_)
  have hl1 : h1.IsTuple l items := ⟨ol, hk1 _ _ (k0 _ _ hl), hc, n, hdat⟩
  have hS1 : s.heap.objs.size < h1.objs.size := by
    have e : (s.heap.push { cls := .type "dict", data := .dict #[] }).get? s.heap.objs.size = some { cls := .type "dict", data := .dict #[] } := Heap.get?_push_size _ rfl
    exact Heap.lt_size (hk1 _ _ e)
  refine wpAny_bind (wpAny_pyIter_tuple hl1 ?_)
  have k2 : ∀ b o, h1.get? b = some o → (h1.push { cls := .type "tuple_iterator", data := .fields #[.ref l, .int 0 0] }).get? b = some o := fun b o e => Heap.get?_push_of_some _ e
  have hlt : l < s.heap.objs.size := Heap.lt_size hl
  have key := upd_loopT (prog := prog) (w := w) (A := A.in1) (R := wants (fun r s₂ => r = .none ∧ Q (.ref s.heap.objs.size) s₂) E) (S := s.heap.objs.size) (I := h1.objs.size) (l := l) (items := items) (res := Value.none) hh
    (Nat.ne_of_lt (Nat.lt_trans hlt hS1)) (Nat.ne_of_lt hS1) (Nat.ne_of_gt hlt) prs 0 [] 0 0
    { s with heap := h1.push { cls := .type "tuple_iterator", data := .fields #[.ref l, .int 0 0] }, toks := tk1 } (by rw [hsz, Nat.zero_add]) (by rw [List.length_nil, Nat.zero_add]; exact hln)
    (fun j q e => by
      obtain ⟨b, u, e1, e2, e3⟩ := ht j q e
      have hb : b < s.heap.objs.size := e2.lt
      exact ⟨b, u, by rw [Nat.zero_add]; exact e1, Nat.ne_of_lt hb, Nat.ne_of_lt (Nat.lt_trans hb hS1), e2.keeps fun c o z => k2 _ _ (hk1 _ _ (k0 _ _ z)), e3⟩)
    ⟨_, Heap.get?_push_size _ rfl, rfl, rfl⟩ (hl1.at fun o e => k2 _ _ e) ((hnew.at fun o e => hk1 _ _ e).at fun o e => k2 _ _ e)
    (fun h' tk hd' k => ⟨rfl, h h' tk hd' fun b o e => k b o (Nat.ne_of_lt (Heap.lt_size e)) (Nat.ne_of_lt (Nat.lt_trans (Heap.lt_size e) hS1)) (k2 _ _ (hk1 _ _ (k0 _ _ e)))⟩)
  first
    | exact wpAny_pure ⟨plainId_quiet ud_plain _, key⟩
    | exact wpAny_bind (wpAny_pure (wpAny_pure ⟨plainId_quiet ud_plain _, key⟩))
end
section
variable {X : Cx}
/-- dict(t) of a tuple of pairs (key, value) -/
theorem call_dictT (hcalm : X.calm = true) : CallR X (.type "dict") (fun xs H Q => ∃ (a : Addr) (ob : Obj) (ps : List Addr) (kvs : List (Key × V)), xs = [.ref a] ∧ H a = some (.frz ob (.tup (ps.map V.ref))) ∧ ob.dict = none ∧ Paired (fun p kv => SqT X.K H p [kV kv.1, kv.2]) ps kvs ∧
    ∀ p, H p = none → Q (.ref p) (upd H p (.dK (mergeK [] kvs)))) := by
  intro pins s σ H xs us Q I r q
  obtain ⟨a, ob, ps, kvs, ex, hq, hd, hp, q⟩ := q
  subst ex
  obtain ⟨u, eu, rx⟩ := vals1 r
  subst eu
  cases rx
  have hob := I.hok a _ hq
  obtain ⟨ho, hz, its, rv, o, ho', hc, n, hdat⟩ := hob
  rw [ho] at ho'; cases ho'
  have ei := refs_at rv
  subst ei
  rw [List.length_map] at hz
  obtain ⟨prs, rel, hl, hpr⟩ := pairs_of I hp
  refine call_dict_pairsT (prs := prs) (I.ok.hd hcalm) ho hc hd hdat (by simp [hl]) (by rw [hl]; exact hz) (fun j q' e => ?_) fun h' tk hd' k => ?_
  · obtain ⟨b, u, e1, e2, e3⟩ := hpr j q' e
    exact ⟨b, u, by simp [e1], e2, e3⟩
  · have hm : (s.heap.objs.size == sysModules) = false := beq_eq_false_iff_ne.mpr (Nat.ne_of_gt I.big)
    have hlen : (mergeK [] kvs).length ≤ sizeLine := by
      refine Nat.le_trans (length_mergeK kvs []) ?_
      rw [List.length_nil, Nat.zero_add, rel.length, hl]
      exact hz
    exact ⟨.ref s.heap.objs.size, upd H s.heap.objs.size (.dK (mergeK [] kvs)), I.laid (t' := tk) k (Nat.le_refl _) (show ObjOk X.prog X.w _ _ _ (.dK (mergeK [] kvs)) from ⟨hlen, hm, merged [] prs, KV.merge rel .nil, hd'⟩), rfl, q _ (I.hok.fresh (Nat.le_refl _))⟩
/-- a method of a tuple whose object is told -/
def tBMt (r : V → List V → Hp → VK → Prop) (to : TE) (t : TA) : TE := fun σ H Q => to σ H fun x H1 => (∃ a ob xs, x = .ref a ∧ H1 a = some (.frz ob (.tup xs)) ∧ ob.dict = none) ∧ t σ H1 fun xs H2 => r x xs H2 Q
theorem pe_bmt {o e : Expr} {es : List Expr} {to : TE} {t : TA} {name : Str} {apos cpos : Pos} {id : String} {r : V → List V → Hp → VK → Prop} (slot : Slot "tuple" name id) (hty : typeOf (.builtin id) = pure (.type "method_descriptor")) (hm : MtR X id r) (ho : PE X o to) (ha : PA X (e :: es) t)
    (hbase : attributeBase o name X.env (eval o X.env) = eval o X.env)
    (hfew : ((backTo cpos (starEach (e :: es) X.env)).all (fun x => !x.1) && (backToKw cpos (keywordEach [] X.env)).all (fun x => x.1.isSome)
      && decide ((e :: es).length + ([] : List Keyword).length + (if ([] : List Keyword).isEmpty then 0 else 1) < 30)) = true)
    (hline : (apos.endLine == cpos.line) = true) (hs : starEach (e :: es) X.env = (false, eval e X.env) :: starEach es X.env) (hplain : (backTo cpos (starEach es X.env)).any (·.1) = false) :
    PE X (.Call (.Attribute o name apos) (e :: es) [] cpos) (tBMt r to t) := by
  refine ⟨fun pins s σ H Q I h => ?_⟩
  refine wpAny_Call_method_late hbase hfew hline rfl (thn (ho.run pins s σ H _ I h) fun v s1 ⟨x, H1, I1, r1, ty, q1⟩ => ?_)
  obtain ⟨a, ob, xs, rfl, hx, hd⟩ := ty
  have rv := r1
  cases r1
  obtain ⟨ho', hz, its, rr, o2, ho2, hc, _⟩ := I1.hok a _ hx
  rw [ho'] at ho2; cases ho2
  refine ⟨"tuple", id, PySem.F.plainAttrs_tuple, slot, hty, ⟨_, ho', hc⟩, ?_, ?_⟩
  · intro b eb
    cases eb
    exact ⟨_, ho', hd⟩
  have hA := ha.run cpos pins s1 σ H1 _ I1 q1
  rw [hs] at hA ⊢
  refine Calls.callWith_builtin (by show (false || (backTo cpos (starEach es X.env)).any (·.1)) = false; rw [hplain] <;> rfl) (Calls.evalArgs_plain ?_)
  exact thn hA fun us s2 ⟨vs, H2, I2, r2, q2⟩ => hm pins s2 σ H2 _ vs _ us Q I2 rv r2 q2
end
end FW

namespace FW
open PySem PySem.Spec L2
section
variable {X : Cx} {E : XK} {pos : Pos}
/-- t.count(x), t a tuple -/
def mCountT : WM := fun x ws m R => match x, ws with
  | .tup l, [y] => isFlat y = true ∧ l.all isFlat = true ∧ R (.int ((l.countP fun z => eqF z y : Nat))) m
  | _, _ => False
theorem mw_countT : MtR X "tuple.count" (rWM (gOf X) mCountT) := by
  intro pins s σ H x xs v us Q I rx rv ⟨as, wx, ws, m, R, sr, r1, r2, q, ok⟩
  unfold mCountT at q
  split at q
  · rename_i l y
    obtain ⟨vy, rfl, ry⟩ := r2.one
    obtain ⟨fy, fl, q⟩ := q
    obtain ⟨a, vs, rfl, k2, k0, k3⟩ := relT r1
    refine mt_tcountF pins s σ H _ _ v us Q I rx rv ⟨a, vs, vy, rfl, rfl, .inl k2, flat_rel ry fy, flats_rel k3 fl, ?_⟩
    rw [count_rel ry fy k3 fl]
    exact ok _ m _ H as (Fr.refl _ _) sr (.int _) q
  · exact q.elim
/-- a method of a tuple -/
def wBMt (f : WM) (o : WE) (t : WA) : WE := fun d m R Z => o d m (fun x m1 => (∃ l, x = .tup l) ∧ t d m1 (fun ws m2 => f x ws m2 R) Z) Z
theorem w_bmt {name : Str} {id : String} {f : WM} {o e : Expr} {es : List Expr} {to : WE} {t : WA} {apos : Pos} (slot : Slot "tuple" name id) (hty : typeOf (.builtin id) = pure (.type "method_descriptor")) (hm : MtR X id (rWM (gOf X) f))
    (ho : PE X o (tM (gOf X) E to)) (ha : PA X (e :: es) (tMA (gOf X) E t)) (hbase : attributeBase o name X.env (eval o X.env) = eval o X.env) (hn : (e :: es).all notStar = true) (h30 : decide ((e :: es).length + 0 + 0 < 30) = true) (hline : (apos.endLine == pos.line) = true) :
    PE X (.Call (.Attribute o name apos) (e :: es) [] pos) (tM (gOf X) E (wBMt f to t)) := by
  have hn1 := hn
  rw [List.all_cons, Bool.and_eq_true] at hn1
  refine PE_mono (pe_bmt slot hty hm ho ha hbase (by rw [backTo_all hn]; exact h30) hline (starEach_plain hn1.1) (starEach_any hn1.2)) fun σ H Q ⟨as, d, m, R, Z, sr, rs, h, ok, ex⟩ => ?_
  refine ⟨as, d, m, _, Z, sr, rs, h, fun w m1 v H1 as1 f1 s1 r1 h1 => ?_, ex⟩
  obtain ⟨⟨l, rfl⟩, h1⟩ := h1
  obtain ⟨a, o, vs, rfl, hH, hd, _, _⟩ := relTF r1
  refine ⟨⟨a, o, vs, rfl, hH, hd⟩, as1, d, m1, _, Z, s1, rs.fr f1, h1, fun ws m2 us H2 as2 f2 s2 r2 h2 => ?_, ex.fr f1⟩
  exact ⟨as2, _, ws, m2, R, s2, r1.fr f2, r2, h2, fun w3 m3 v3 H3 as3 f3 s3 r3 h3 => ok w3 m3 v3 H3 as3 (f1.trans (f2.trans f3)) s3 r3 h3⟩
def pairOf : W → Option (Key × W)
  | .tup [.str k, w] => some (.inr k, w)
  | _ => none
def pairsOf : List W → Option (List (Key × W))
  | [] => some []
  | x :: r => (match pairOf x with
    | some p => (match pairsOf r with
      | some l => some (p :: l)
      | none => none)
    | none => none)
def fDict : WF := fun ws m R => match ws with
  | [.tup l] => (match pairsOf l with
    | some kvs => (kvs.map (·.1)).Nodup ∧ R (.dct kvs) m
    | none => False)
  | _ => False
theorem pairOf_ok {x : W} {k : Key} {w : W} (h : pairOf x = some (k, w)) : ∃ z, k = .inr z ∧ x = .tup [.str z, w] := by
  unfold pairOf at h
  split at h
  · cases h; exact ⟨_, rfl, rfl⟩
  · cases h
theorem pairs_rel {g : GE} {as : AS} {H : Hp} : ∀ {ws : List W} {vs : List V} {kws : List (Key × W)}, RelWs g as H ws vs → pairsOf ws = some kws →
    ∃ (ps : List Addr) (kvs : List (Key × V)), vs = ps.map V.ref ∧ Paired (fun p kv => SqT g.K H p [kV kv.1, kv.2]) ps kvs ∧ RelKs g as H kws kvs
  | _, _, _, .nil, e => by cases e; exact ⟨[], [], rfl, .nil, .nil⟩
  | x :: ws, _, kws, .cons (v := v) a t, e => by
    unfold pairsOf at e
    cases e1 : pairOf x with
    | none => rw [e1] at e; cases e
    | some p =>
      obtain ⟨k, w⟩ := p
      rw [e1] at e
      simp only [] at e
      cases e2 : pairsOf ws with
      | none => rw [e2] at e; cases e
      | some l =>
        rw [e2] at e
        cases e
        obtain ⟨ps, kvs, h1, h2, h3⟩ := pairs_rel t e2
        obtain ⟨z, rfl, rfl⟩ := pairOf_ok e1
        obtain ⟨b, vs2, rfl, k2, _, k3⟩ := relT a
        obtain ⟨v1, v2, rfl, r1, r2⟩ := k3.two
        subst h1
        refine ⟨b :: ps, (.inr z, v2) :: kvs, rfl, .cons ?_ h2, .cons r2 h3⟩
        rw [relStr r1] at k2
        exact .inl k2
theorem relKs_keys {g : GE} {as : AS} {H : Hp} : ∀ {ws : List (Key × W)} {vs : List (Key × V)}, RelKs g as H ws vs → ws.map (·.1) = vs.map (·.1)
  | _, _, .nil => rfl
  | _, _, .cons _ t => by simp [relKs_keys t]
theorem cw_dict (hc : X.calm = true) : CallW X (.type "dict") fDict := by
  intro pins s σ H xs us Q I r ⟨as, ws, m, R, sr, rs, q, ok⟩
  unfold fDict at q
  split at q
  · rename_i l
    obtain ⟨v1, rfl, r1⟩ := rs.one
    cases e : pairsOf l with
    | none => rw [e] at q; exact q.elim
    | some kws =>
      rw [e] at q
      obtain ⟨hnd, q⟩ := q
      obtain ⟨a, o, vs, rfl, hH, hd, _, k3⟩ := relTF r1
      obtain ⟨ps, kvs, rfl, hp, hk⟩ := pairs_rel k3 e
      refine call_dictT hc pins s σ H _ us Q I r ⟨a, o, ps, kvs, rfl, hH, hd, hp, fun p hpn => ?_⟩
      have em : mergeK [] kvs = kvs := by
        rw [mergeK_nodup _ _ (by
          rw [List.nil_append, ← relKs_keys hk]
          exact hnd)]
        rfl
      rw [em]
      have f2 : Fr as as H (upd H p (.dK kvs)) := Fr.new hpn
      exact ok _ m _ _ as f2 (sr.new hpn) (.dct (sr.out hpn) upd_same (hk.fr f2)) q
  · exact q.elim
def wGet2 (o e f : WE) : WE := fun d m R Z => o d m (fun x m1 => match x with
  | .dct kvs => (∃ k l, valW kvs (.inr k) = some (.tup l)) ∧ e d m1 (fun y m2 => f d m2 (fun z m3 => match y with
    | .str k => R ((valW kvs (.inr k)).getD z) m3
    | _ => False) Z) Z
  | _ => False) Z
theorem w_get2 {o e f : Expr} {to te tf : WE} {apos : Pos} (hu : X.A.units + 1 < cLine) (ho : PE X o (tM (gOf X) E to)) (he : PE X e (tM (gOf X) E te)) (hf : PE X f (tM (gOf X) E tf)) (hb : attributeBase o "get" X.env (eval o X.env) = eval o X.env) (hn : notStar e = true) (hn2 : notStar f = true) (hl : (apos.endLine == pos.line) = true) :
    PE X (.Call (.Attribute o "get" apos) [e, f] [] pos) (tM (gOf X) E (wGet2 to te tf)) := by
  have tr : backTo pos (starEach [e, f] X.env) = [(false, eval e X.env), (false, eval f X.env)] := by
    rw [starEach_plain hn, starEach_plain hn2]; rfl
  refine PE_mono (pe_dget2 hu ho he hf ⟨hb, by rw [tr]; rfl, hl, tr⟩) fun σ H Q ⟨as, d, m, R, Z, sr, rs, h, ok, ex⟩ => ?_
  refine ⟨as, d, m, _, Z, sr, rs, h, fun w m1 v H1 as1 f1 s1 r1 h1 => ?_, ex⟩
  cases w with
  | dct kvs =>
    obtain ⟨⟨k0, l0, hk0⟩, h1⟩ := h1
    cases r1 with
    | dctK kd =>
      obtain ⟨_, kd⟩ := kd
      obtain ⟨r, _, h3, h4⟩ := kd k0
      cases r with
      | none => rw [h3 rfl] at hk0; cases hk0
      | some u =>
        obtain ⟨i, h5, _⟩ := h4 u rfl
        rw [h5] at hk0; cases hk0
    | @dct a kv2 _ ha hh hk =>
      refine ⟨a, rfl, .inl ⟨kv2, .inl hh⟩, as1, d, m1, _, Z, s1, rs.fr f1, h1, fun y m2 vy H2 as2 f2 s2 r2 h2 => ?_, ex.fr f1⟩
      refine ⟨as2, d, m2, _, Z, s2, (rs.fr f1).fr f2, h2, fun z m3 vz H3 as3 f3 s3 r3 h3 => ?_, (ex.fr f1).fr f2⟩
      split at h3
      · rename_i k
        have f23 := f2.trans f3
        have hh3 := f23.toFr0.keep a _ ha (fun _ z => by cases z) hh
        refine ⟨valV kv2 (.inr k), ?_, ?_⟩
        · rw [relStr r2]
          exact DGet.k (k := .inr k) hh3
        · rcases (hk.fr f23).val (k := .inr k) with ⟨h5, h6⟩ | ⟨w0, v0, h5, h6, r6⟩
          · rw [h6]
            rw [h5] at h3
            exact ok _ _ _ _ as3 (f1.trans f23) s3 r3 h3
          · rw [h6]
            rw [h5] at h3
            exact ok _ _ _ _ as3 (f1.trans f23) s3 r6 h3
      · exact h3.elim
  | _ => exact h1.elim
end
end FW

namespace FW
open PySem PySem.Spec L2
/-- e.replace(y, z) -/
def wRepl (o : WE) (y z : Str) : WE := fun d m R Z => o d m (fun v m1 => match v with
  | .str x => x.length + (x.length + 1) * z.length ≤ 16777216 ∧ R (.str (Txt.replace x y z)) m1
  | _ => False) Z
end FW

namespace FW
open PySem PySem.Spec L2
structure Ctx where
  N : List Str
  sc : Scope
  fnb : Str → Bool
  fns : List (Str × Nat × Con)
  cns : List (Str × W)
  bl : List Str
  xs : List Str
  mu : List (Nat × Nat)
  hfs : List (Str × Nat × Nat × (W → Con → Con)) := []
  lfns : List (Str × Nat × Con) := []
  lams : List (Nat × Nat × W × Con) := []
  mkr : Bool := false
  mths : List (Str × Nat × Str × Con) := []
  mkc : List (Str × Nat × Con) := []
  flds : List (Str × Str) := []
  lmths : List (Str × Nat × Str × Con) := []
  lmkc : List (Str × Nat × Con) := []
def slotOf : List Str → Str → Option Nat
  | [], _ => none
  | y :: r, x => if y = x then some 0 else (slotOf r x).map (· + 1)
theorem slotOf_ok : ∀ {N : List Str} {x : Str} {i : Nat}, slotOf N x = some i → N[i]? = some x
  | [], _, _, h => by cases h
  | y :: r, x, i, h => by
    unfold slotOf at h
    split at h
    · rename_i e; cases h; subst e; rfl
    · cases q : slotOf r x with
      | none => rw [q] at h; cases h
      | some j =>
        rw [q] at h
        have e : j + 1 = i := Option.some.inj h
        subst e
        simpa using slotOf_ok q
def plainName (x : Str) : Bool := !(x == ("__debug__" : Str)) && !(x == ("__classdict__" : Str)) && !(x == ("__name__" : Str))
theorem plainName_ok {x : Str} (h : plainName x = true) : (x == ("__debug__" : Str)) = false ∧ (x == ("__classdict__" : Str)) = false ∧ x ≠ "__name__" := by
  unfold plainName at h
  simp only [Bool.and_eq_true, Bool.not_eq_true'] at h
  exact ⟨h.1.1, h.1.2, by intro e; rw [e] at h; simp at h⟩
def find3 {α : Type} : List (Str × α) → Str → Option α
  | [], _ => none
  | p :: r, x => if p.1 = x then some p.2 else find3 r x
theorem find3_mem {α : Type} : ∀ {l : List (Str × α)} {x : Str} {a : α}, find3 l x = some a → (x, a) ∈ l
  | [], _, _, h => by cases h
  | p :: r, x, a, h => by
    unfold find3 at h
    split at h
    · rename_i e; cases h; subst e; exact List.mem_cons_self
    · exact List.mem_cons_of_mem _ (find3_mem h)
/-- by name and number of arguments -/
def findN : List (Str × Nat × Con) → Str → Nat → Option Con
  | [], _, _ => none
  | p :: r, x, n => if p.1 = x ∧ p.2.1 = n then some p.2.2 else findN r x n
theorem findN_mem : ∀ {l : List (Str × Nat × Con)} {x : Str} {n : Nat} {a : Con}, findN l x n = some a → (x, n, a) ∈ l
  | [], _, _, _, h => by cases h
  | p :: r, x, n, a, h => by
    unfold findN at h
    split at h
    · rename_i e
      cases h
      obtain ⟨y, k, b⟩ := p
      obtain ⟨rfl, rfl⟩ := e
      exact List.mem_cons_self
    · exact List.mem_cons_of_mem _ (findN_mem h)
/-- a method by its name and number of arguments -/
def findM : List (Str × Nat × Str × Con) → Str → Nat → Option (Str × Con)
  | [], _, _ => none
  | p :: r, x, n => if p.1 = x ∧ p.2.1 = n then some p.2.2 else findM r x n
theorem findM_mem : ∀ {l : List (Str × Nat × Str × Con)} {x : Str} {n : Nat} {a : Str × Con}, findM l x n = some a → (x, n, a) ∈ l
  | [], _, _, _, h => by cases h
  | p :: r, x, n, a, h => by
    unfold findM at h
    split at h
    · rename_i e
      cases h
      obtain ⟨y, k, b⟩ := p
      obtain ⟨rfl, rfl⟩ := e
      exact List.mem_cons_self
    · exact List.mem_cons_of_mem _ (findM_mem h)
/-- the classes with a field -/
def fldCls : List (Str × Str) → Str → List Str
  | [], _ => []
  | p :: r, f => if p.2 = f then p.1 :: fldCls r f else fldCls r f
theorem fldCls_mem : ∀ {l : List (Str × Str)} {f c : Str}, c ∈ fldCls l f → (c, f) ∈ l
  | [], _, _, h => by cases h
  | p :: r, f, c, h => by
    unfold fldCls at h
    split at h
    · rename_i e
      rcases List.mem_cons.mp h with q | q
      · obtain ⟨y, k⟩ := p
        simp only at e q
        subst e q
        exact List.mem_cons_self
      · exact List.mem_cons_of_mem _ (fldCls_mem q)
    · exact List.mem_cons_of_mem _ (fldCls_mem h)
def findH : List (Str × Nat × Nat × (W → Con → Con)) → Str → Nat → Option (Nat × (W → Con → Con))
  | [], _, _ => none
  | p :: r, x, n => if p.1 = x ∧ p.2.2.1 = n then some (p.2.1, p.2.2.2) else findH r x n
theorem findH_mem : ∀ {l : List (Str × Nat × Nat × (W → Con → Con))} {x : Str} {n k : Nat} {a : W → Con → Con}, findH l x n = some (k, a) → (x, k, n, a) ∈ l
  | [], _, _, _, _, h => by cases h
  | p :: r, x, n, k, a, h => by
    unfold findH at h
    split at h
    · rename_i e
      obtain ⟨y, k', n', b⟩ := p
      cases h
      obtain ⟨rfl, rfl⟩ := e
      exact List.mem_cons_self
    · exact List.mem_cons_of_mem _ (findH_mem h)
def findL : List (Nat × Nat × W × Con) → Nat → Option (Nat × W × Con)
  | [], _ => none
  | p :: r, i => if p.1 = i then some p.2 else findL r i
theorem findL_mem : ∀ {l : List (Nat × Nat × W × Con)} {i : Nat} {a : Nat × W × Con}, findL l i = some a → (i, a) ∈ l
  | [], _, _, h => by cases h
  | p :: r, i, a, h => by
    unfold findL at h
    split at h
    · rename_i e; cases h; subst e; exact List.mem_cons_self
    · exact List.mem_cons_of_mem _ (findL_mem h)
def isVis (c : Ctx) (x : Str) : Bool := match c.sc.names.lookup x with
  | some .local => true
  | some .cell => true
  | some .free => true
  | _ => false
def isGlob (c : Ctx) (x : Str) : Bool := match c.sc.names.lookup x with
  | some .globalImplicit => true
  | _ => false
/-- a name that can be stored -/
def isLoc (c : Ctx) (x : Str) : Bool := match c.sc.names.lookup x with
  | some .local => true
  | some .cell => c.fnb x
  | _ => false
def isLocal (c : Ctx) (x : Str) : Bool := match c.sc.names.lookup x with
  | some .local => true
  | _ => false
structure CtxOk (X : Cx) (E : XK) (c : Ctx) : Prop where
  nd : X.N.Nodup
  hN : X.N = c.N
  hsc : X.env.scope = c.sc
  kf : X.env.scope.kind = .function
  calm : X.calm = true
  gb : GB X.K X.mg X.base
  fok : ∀ x n con, (x, n, con) ∈ c.fns → ∃ k, Room k X.A ∧ FnW X.prog X.w X.K X.mg k x n con
  hfo : ∃ kl, (∀ x n con, (x, n, con) ∈ c.lfns → FnW X.prog X.w X.K X.mg kl x n con) ∧ (∀ m n x con, (m, n, x, con) ∈ c.lmths → MtW X.prog X.w X.K X.mg kl x m n con) ∧ (∀ x n con, (x, n, con) ∈ c.lmkc → MkW X.prog X.w X.K X.mg kl x n con) ∧ ∀ x nl n C, (x, nl, n, C) ∈ c.hfs → ∃ k, Room k X.A ∧ HFn X.prog X.w X.K X.mg (kl + 1) k x nl n C
  lok : ∀ i n F con, (i, n, F, con) ∈ c.lams → ∃ k, Room k X.A ∧ LamF X.prog X.w X.K X.mg X.base k F n con
  mko : c.mkr = true → (∀ y, X.fn y = true) ∧ ∃ x cc P, (x, cc, P) ∈ tabC X.K ∧ X.env.code = .ref cc ∧ X.env.qual ++ "<lambda>" = lamQ x ∧ ∀ p ∈ tabT X.K, p.1 = P → p.2 = lamQ x
  cok : ∀ x w, (x, w) ∈ c.cns → ∃ u v, X.mg x = some u ∧ RelV v u ∧ ∀ as H, RelW (gOf X) as H w v
  bok : ∀ x, x ∈ c.bl → X.mg x = none
  xok : ∀ x, x ∈ c.xs → XOk X x
  hu : X.A.units + 65 < cLine
  tk : Takes X (fun cls d _ H => E cls d H)
  po : PassesOwn (model X.prog X.w) X.A X.env X.xe
  fnn : ∀ x, c.fnb x = true → X.fn x = true
  mok : ∀ m n x con, (m, n, x, con) ∈ c.mths → ∃ k, Room k X.A ∧ MtW X.prog X.w X.K X.mg k x m n con
  kok : ∀ x n con, (x, n, con) ∈ c.mkc → ∃ k, Room k X.A ∧ MkW X.prog X.w X.K X.mg k x n con
  flo : ∀ x f, (x, f) ∈ c.flds → FlOk (gOf X) x f
section
variable {X : Cx} {E : XK} {c : Ctx}
theorem CtxOk.pass (ok : CtxOk X E c) : Passes (CX X.prog X.w) X E := L2N.passes_call ok.tk fun _ _ _ _ h => h
theorem CtxOk.vis (ok : CtxOk X E c) {x : Str} (h : isVis c x = true) : Vis X.env.scope x := by
  unfold isVis at h
  rw [← ok.hsc] at h
  unfold Vis
  split at h
  · exact .inl (by assumption)
  · exact .inr (.inl (by assumption))
  · exact .inr (.inr (by assumption))
  · cases h
theorem CtxOk.gl (ok : CtxOk X E c) {x : Str} (h : isGlob c x = true) : Gl X x := by
  unfold isGlob at h
  rw [← ok.hsc] at h
  split at h
  · rename_i e; exact e
  · cases h
theorem CtxOk.loc (ok : CtxOk X E c) {x : Str} (h : isLoc c x = true) : Loc X.env.scope x ∧ (X.fn x = true ∨ X.env.scope.names.lookup x = some .local) := by
  unfold isLoc at h
  split at h
  · rename_i e; rw [← ok.hsc] at e; exact ⟨.inl e, .inr e⟩
  · rename_i e; rw [← ok.hsc] at e; exact ⟨.inr e, .inl (ok.fnn x h)⟩
  · cases h
theorem CtxOk.locl (ok : CtxOk X E c) {x : Str} (h : isLocal c x = true) : X.env.scope.names.lookup x = some .local := by
  unfold isLocal at h
  split at h
  · rename_i e; rw [← ok.hsc] at e; exact e
  · cases h
end
def opOf : Operator → Option WO
  | .Add => some oAdd
  | .Sub => some oSub
  | .Mult => some oMul
  | .FloorDiv => some oDiv
  | .Mod => some oMod
  | .Pow => some oPow
  | _ => none
def cmpOf : CmpOp → Option WO
  | .Eq => some (oEq false)
  | .NotEq => some (oEq true)
  | .Lt => some oLt
  | .LtE => some oLe
  | .Gt => some oGt
  | .GtE => some oGe
  | .Is => some (oIs false)
  | .IsNot => some (oIs true)
  | .In => some (oIn false)
  | .NotIn => some (oIn true)
theorem opOf_ok {X : Cx} {op : Operator} {f : WO} (h : opOf op = some f) : OpW X (binaryOp op) f := by
  cases op <;> first
    | (cases h; done)
    | (cases h; exact opw_add)
    | (cases h; exact opw_sub)
    | (cases h; exact opw_mul)
    | (cases h; exact opw_div)
    | (cases h; exact opw_mod)
    | (cases h; exact opw_pow)
theorem cmpOf_ok {X : Cx} {op : CmpOp} {f : WO} (hu1 : X.A.units + 65 < cLine) (h : cmpOf op = some f) : OpW X (compareOp op) f := by
  have hu : X.A.units + 64 < cLine := by omega
  cases op <;> first
    | (cases h; done)
    | (cases h; exact opw_eq hu)
    | (cases h; exact opw_ne hu)
    | (cases h; exact opw_lt)
    | (cases h; exact opw_le)
    | (cases h; exact opw_gt)
    | (cases h; exact opw_ge)
    | (cases h; exact opw_is)
    | (cases h; exact opw_isnot)
    | (cases h; exact opw_in hu1)
    | (cases h; exact opw_notin hu1)
/-- built-ins by name: a function, or a type -/
inductive BK where
  | fn (id : String) | ty (T : String)
def BK.val : BK → Value
  | .fn id => .builtin id
  | .ty T => .type T
def bltTab : List (Str × (BK × WF)) := [("len", .fn "len", fLen), ("sum", .fn "sum", fSum), ("any", .fn "any", fAny), ("all", .fn "all", fAll), ("max", .fn "max", fMax), ("min", .fn "min", fMin), ("int", .ty "int", fInt), ("tuple", .ty "tuple", fTuple), ("list", .ty "list", fList), ("divmod", .fn "divmod", fDivmod), ("str", .ty "str", fStr), ("dict", .ty "dict", fDict)]
theorem bltTab_ok {X : Cx} (hc : X.calm = true) {x : Str} {k : BK} {f : WF} (h : (x, (k, f)) ∈ bltTab) : CallW X k.val f ∧ bootBuiltins x = some k.val := by
  unfold bltTab at h
  simp only [List.mem_cons, List.not_mem_nil, or_false, Prod.mk.injEq] at h
  rcases h with h | h | h | h | h | h | h | h | h | h | h | h <;> obtain ⟨rfl, rfl, rfl⟩ := h
  · exact ⟨cw_len, by decide +kernel⟩
  · exact ⟨cw_sum hc, by decide +kernel⟩
  · exact ⟨cw_any hc, by decide +kernel⟩
  · exact ⟨cw_all hc, by decide +kernel⟩
  · exact ⟨cw_max hc, by decide +kernel⟩
  · exact ⟨cw_min hc, by decide +kernel⟩
  · exact ⟨cw_int, by decide +kernel⟩
  · exact ⟨cw_tuple, by decide +kernel⟩
  · exact ⟨cw_list, by decide +kernel⟩
  · exact ⟨cw_divmod, by decide +kernel⟩
  · exact ⟨cw_str, by decide +kernel⟩
  · exact ⟨cw_dict hc, by decide +kernel⟩
def tyTab : List (Str × String) := [("bool", "bool"), ("int", "int"), ("str", "str"), ("tuple", "tuple"), ("list", "list"), ("dict", "dict")]
theorem tyTab_ok {T : Str} {t : String} (h : (T, t) ∈ tyTab) : bootBuiltins T = some (.type t) ∧ t ∈ tyAsk := by
  unfold tyTab at h
  simp only [List.mem_cons, List.not_mem_nil, or_false, Prod.mk.injEq] at h
  rcases h with h | h | h | h | h | h <;> obtain ⟨rfl, rfl⟩ := h <;> exact ⟨by decide +kernel, by decide⟩
/-- methods of built-in types, with arguments; without -/
def mthTab : List (Str × (String × String × WM)) := [("append", "list", "list.append", mAppend), ("insert", "list", "list.insert", mInsert), ("index", "list", "list.index", mIndex), ("count", "list", "list.count", mCount), ("join", "str", "str.join", mJoin), ("split", "str", "str.split", mSplit), ("partition", "str", "str.partition", mPart), ("lstrip", "str", "str.lstrip", mLstrip1), ("rstrip", "str", "str.rstrip", mRstrip1)]
def mthTab0 : List (Str × (String × String × WM)) := [("pop", "list", "list.pop", mPop), ("split", "str", "str.split", mWords), ("lstrip", "str", "str.lstrip", mLstrip), ("rstrip", "str", "str.rstrip", mRstrip)]
theorem mthTab_ok {X : Cx} {x : Str} {T id : String} {f : WM} (h : (x, (T, id, f)) ∈ mthTab) : PlainAttrs T ∧ Slot T x id ∧ typeOf (.builtin id) = pure (.type "method_descriptor") ∧ MtR X id (rWM (gOf X) f) := by
  unfold mthTab at h
  simp only [List.mem_cons, List.not_mem_nil, or_false, Prod.mk.injEq] at h
  rcases h with h | h | h | h | h | h | h | h | h <;> obtain ⟨rfl, rfl, rfl, rfl⟩ := h
  · exact ⟨PySem.F.plainAttrs_list, PySem.F.slot_list_append, PySem.F.type_list_append, mw_append⟩
  · exact ⟨PySem.F.plainAttrs_list, PySem.F.slot_list_insert, PySem.F.type_list_insert, mw_insert⟩
  · exact ⟨PySem.F.plainAttrs_list, PySem.F.slot_list_index, PySem.F.type_list_index, mw_index⟩
  · exact ⟨PySem.F.plainAttrs_list, PySem.F.slot_list_count, PySem.F.type_list_count, mw_count⟩
  · exact ⟨PySem.F.plainAttrs_str, PySem.F.slot_str_join, PySem.F.type_str_join, mw_join⟩
  · exact ⟨PySem.F.plainAttrs_str, PySem.F.slot_str_split, PySem.F.type_str_split, mw_split⟩
  · exact ⟨PySem.F.plainAttrs_str, PySem.F.slot_str_partition, PySem.F.type_str_partition, mw_part⟩
  · exact ⟨PySem.F.plainAttrs_str, PySem.F.slot_str_lstrip, PySem.F.type_str_lstrip, mw_lstrip1⟩
  · exact ⟨PySem.F.plainAttrs_str, PySem.F.slot_str_rstrip, PySem.F.type_str_rstrip, mw_rstrip1⟩
theorem mthTab0_ok {X : Cx} {x : Str} {T id : String} {f : WM} (h : (x, (T, id, f)) ∈ mthTab0) : PlainAttrs T ∧ Slot T x id ∧ typeOf (.builtin id) = pure (.type "method_descriptor") ∧ MtR X id (rWM (gOf X) f) := by
  unfold mthTab0 at h
  simp only [List.mem_cons, List.not_mem_nil, or_false, Prod.mk.injEq] at h
  rcases h with h | h | h | h <;> obtain ⟨rfl, rfl, rfl, rfl⟩ := h
  · exact ⟨PySem.F.plainAttrs_list, PySem.F.slot_list_pop, PySem.F.type_list_pop, mw_pop⟩
  · exact ⟨PySem.F.plainAttrs_str, PySem.F.slot_str_split, PySem.F.type_str_split, mw_words⟩
  · exact ⟨PySem.F.plainAttrs_str, PySem.F.slot_str_lstrip, PySem.F.type_str_lstrip, mw_lstrip⟩
  · exact ⟨PySem.F.plainAttrs_str, PySem.F.slot_str_rstrip, PySem.F.type_str_rstrip, mw_rstrip⟩
def notSet : Expr → Bool
  | .Set .. => false
  | _ => true
def notSlice : Expr → Bool
  | .Slice .. => false
  | _ => true
def notComp : Expr → Bool
  | .ListComp .. => false
  | .SetComp .. => false
  | .DictComp .. => false
  | _ => true
def notCall0 : Expr → Bool
  | .Call (.Name ..) [] [] _ => false
  | _ => true
/-- a test that is read by its value -/
def plainTest : Expr → Bool
  | .UnaryOp .. => false
  | .BoolOp .. => false
  | .IfExp .. => false
  | .Compare .. => false
  | _ => true
theorem behind_no {op : CmpOp} {e : Expr} (h : notSet e = true) : behindInMarks op e = false := by
  cases e <;> first | rfl | cases h
theorem plainIx_no {e : Expr} (h : notSlice e = true) : PlainIx e := by
  intro o i
  cases e <;> first | rfl | cases h
theorem sw_no {e : Expr} {t : Option Expr} {l : Nat} {env : Env} (h : notComp e = true) : swapsWith e t l env = pure false := by
  cases e <;> first | rfl | cases h
theorem fold_no {e : Expr} {env : Env} (h : notSet e = true) : ∀ x, foldedSetIterable e env x = pure x := by
  intro x
  cases e <;> first | rfl | cases h
theorem base_no {o : Expr} {a : Str} {env : Env} (h : notCall0 o = true) : attributeBase o a env (eval o env) = eval o env := by
  cases o with
  | Call f args kws pos =>
    cases f with
    | Name x p =>
      cases args with
      | nil =>
        cases kws with
        | nil => cases h
        | cons _ _ => rfl
      | cons _ _ => rfl
    | _ => rfl
  | _ => rfl
theorem isTrue_no {e : Expr} {env : Env} (h : plainTest e = true) : ∀ whole, isTrue e env whole = (do let v ← whole; standAt e.pos; holding [v] (truthy v)) := by
  intro w
  cases e <;> first | rfl | cases h
theorem asg_sub {o i : Expr} {pos : Pos} {env : Env} (h : notSlice i = true) : ∀ v, assign (.Subscript o i pos) env v = (do
      let ov ← holding [v] (eval o env)
      let iv ← holding [v, ov] (eval i env)
      standAt pos
      holding [v, ov, iv] (setItem ov iv v)
      release [v, ov, iv] []) := by
  intro v
  cases i <;> first | rfl | cases h
def isMu (c : Ctx) (p : Pos) : Bool := c.mu.any fun q => decide (q.1 = p.line) && decide (q.2 = p.col)
end FW

namespace FW
open PySem PySem.Spec L2
def Ctx.inn (c : Ctx) (scope : Scope) : Ctx := { c with sc := relS scope c.sc, fnb := fun x => scope.names.lookup x == some .cell, mkr := false }
/-- in a lambda's body -/
def Ctx.lam (c : Ctx) (scope : Scope) : Ctx := { c with sc := scope, fnb := fun _ => false, fns := c.lfns, hfs := [], lams := [], mkr := false, mths := c.lmths, mkc := c.lmkc }
theorem CtxOk.inn {X : Cx} {E : XK} {c : Ctx} (ok : CtxOk X E c) {scope : Scope} (hk : scope.kind = .function) (s : Shared) (H : Hp) (C : Addr) (cl : List (Str × Addr)) (fp : List Addr) :
    CtxOk (X.blk s H scope (compEnvC scope cl C X.env) fp) E0 (c.inn scope) where
  nd := ok.nd
  hN := ok.hN
  hsc := by
    show relabel scope X.env = relS scope c.sc
    rw [← ok.hsc]
    rfl
  kf := hk
  calm := ok.calm
  gb := ok.gb
  fok := ok.fok
  hfo := ok.hfo
  lok := ok.lok
  mko := fun h => by cases h
  cok := ok.cok
  bok := ok.bok
  xok := fun x h => ⟨(ok.xok x h).ex⟩
  hu := ok.hu
  tk := takes0
  po := PassesOwn.never
  fnn := fun x h => h
  mok := ok.mok
  kok := ok.kok
  flo := ok.flo
theorem CtxOk.lam {X : Cx} {E : XK} {c : Ctx} (ok : CtxOk X E c) {scope : Scope} (hk : scope.kind = .function) {kl : Nat} (hf : ∀ x n con, (x, n, con) ∈ c.lfns → FnW X.prog X.w X.K X.mg kl x n con) (hm : ∀ m n x con, (m, n, x, con) ∈ c.lmths → MtW X.prog X.w X.K X.mg kl x m n con) (hk' : ∀ x n con, (x, n, con) ∈ c.lmkc → MkW X.prog X.w X.K X.mg kl x n con) {B : Heap} (gb : GB X.K X.mg B) (A : Around) (outer : List Env) (s1 : Shared) (H1 : Hp) (E' : XK) (f c' : Addr)
    (hr : Room kl (A.deeper (LamX.lamEnv X scope s1.heap.objs.size f c'))) : CtxOk (lamCxN (baseCx X B) A outer s1 H1 E' scope f c') E' (c.lam scope) where
  nd := ok.nd
  hN := ok.hN
  hsc := rfl
  kf := hk
  calm := rfl
  gb := gb
  fok := fun x n con hm => ⟨kl, hr, hf x n con hm⟩
  hfo := ⟨kl, hf, hm, hk', fun x nl n C hm => by cases hm⟩
  lok := fun i n F con hm => by cases hm
  mko := fun h => by cases h
  cok := ok.cok
  bok := ok.bok
  xok := fun x h => ⟨(ok.xok x h).ex⟩
  hu := by
    have h : (A.deeper (LamX.lamEnv X scope s1.heap.objs.size f c')).units + 65 < cLine := by have := hr.un; omega
    exact h
  tk := L2N.takes_of rfl rfl rfl rfl
  po := PassesOwn.leaving
  fnn := fun x h => by cases h
  mok := fun m n x con h => ⟨kl, hr, hm m n x con h⟩
  kok := fun x n con h => ⟨kl, hr, hk' x n con h⟩
  flo := ok.flo
def slotsOf (c : Ctx) : List Expr → Option (List (Str × Nat))
  | [] => some []
  | .Name x _ :: r => (match slotOf c.N x, slotsOf c r with
    | some i, some l => if isLoc c x = true then some ((x, i) :: l) else none
    | _, _ => none)
  | _ => none
def tgtOf (c : Ctx) : Expr → Option (List (Str × Nat) × Tgt)
  | .Name x _ => (match slotOf c.N x with
    | some i => if isLoc c x = true then some ([(x, i)], .nm i) else none
    | none => none)
  | .Tuple es _ _ => (match slotsOf c es with
    | some l => some (l, .tp (l.map (·.2)))
    | none => none)
  | _ => none
section
variable {X : Cx} {E : XK} {c : Ctx}
theorem slotsOf_ok (ok : CtxOk X E c) : ∀ {es : List Expr} {l : List (Str × Nat)}, slotsOf c es = some l → NamesAt X es (l.map (·.2)) ∧ (assignEach es X.env).length = (l.map (·.2)).length ∧ (assignEach es X.env).findIdx? (·.1) = none
  | [], l, h => by cases h; exact ⟨names_nil, rfl, rfl⟩
  | e :: r, l, h => by
    cases e with
    | Name x p =>
      simp only [slotsOf] at h
      cases h1 : slotOf c.N x with
      | none => simp [h1] at h
      | some i =>
        cases h2 : slotsOf c r with
        | none => simp [h1, h2] at h
        | some l2 =>
          simp only [h1, h2] at h
          split at h
          · rename_i hl
            cases h
            obtain ⟨k1, k2, k3⟩ := slotsOf_ok ok h2
            obtain ⟨j1, j2⟩ := ok.loc hl
            refine ⟨names_cons ok.nd (by rw [ok.hN]; exact slotOf_ok h1) j1 j2 k1, ?_, ?_⟩
            · show ((false, assign (.Name x p) X.env) :: assignEach r X.env).length = _
              simp only [List.length_cons, List.map_cons, k2]
            · show ((false, assign (.Name x p) X.env) :: assignEach r X.env).findIdx? (·.1) = none
              rw [List.findIdx?_cons, k3]
              rfl
          · cases h
    | _ => cases h
theorem tgtOf_ok (ok : CtxOk X E c) {tg : Expr} {own : List (Str × Nat)} {T : Tgt} (h : tgtOf c tg = some (own, T)) : PG X tg (T.tgl X.K) ∧ own.map (·.2) = T.slots ∧ PG X tg (tMG (gOf X) T.wg) := by
  cases tg with
  | Name x p =>
    simp only [tgtOf] at h
    cases h1 : slotOf c.N x with
    | none => rw [h1] at h; cases h
    | some i =>
      rw [h1] at h
      simp only at h
      split at h
      · rename_i hl
        cases h
        obtain ⟨j1, j2⟩ := ok.loc hl
        have hi : X.N[i]? = some x := by rw [ok.hN]; exact slotOf_ok h1
        exact ⟨pg_name ok.nd hi j1 j2, rfl, g_name ok.nd hi j1 j2⟩
      · cases h
  | Tuple es k p =>
    simp only [tgtOf] at h
    cases h1 : slotsOf c es with
    | none => rw [h1] at h; cases h
    | some l =>
      rw [h1] at h
      cases h
      obtain ⟨k1, k2, k3⟩ := slotsOf_ok ok h1
      exact ⟨pg_tup ok.calm k1 k2 k3, rfl, g_tup ok.calm k1 k2 k3⟩
  | _ => cases h
end
def trName (c : Ctx) (x : Str) : Option WE :=
  if plainName x = true then
    (if isVis c x = true then (match slotOf c.N x with
      | some i => some (wVar i)
      | none => none)
    else if isGlob c x = true then (match find3 c.cns x with
      | some w => some (wC w)
      | none => none)
    else none)
  else none
def isiArgs : List Expr → Option (Expr × Str)
  | [e, .Name T _] => some (e, T)
  | _ => none
def rangeOf : Expr → Option (List Expr)
  | .Call (.Name x _) args [] _ => if x = "range" then some args else none
  | _ => none
def noArgs : List Expr → Bool
  | [] => true
  | _ => false
def keyStrs : List (Option Expr) → Option (List Str)
  | [] => some []
  | some (.Constant (.str k) _ _) :: r => (match keyStrs r with
    | some l => some (k :: l)
    | none => none)
  | _ => none
def keyKs : List (Option Expr) → Option (List Key)
  | [] => some []
  | some (.Constant (.str k) _ _) :: r => (match keyKs r with
    | some l => some (.inr k :: l)
    | none => none)
  | some (.Constant (.int k) _ _) :: r => (match keyKs r with
    | some l => some (.inl k :: l)
    | none => none)
  | _ => none
/-- a lambda ahead of the other arguments -/
def lamOf : List Expr → Option (Arguments × Expr × Scope × List Expr)
  | .Lambda params body scope _ :: es => some (params, body, scope, es)
  | _ => none
/-- its parameters: none, or one -/
def parsOf : Arguments → Option (List Str)
  | ⟨[], [], none, [], [], none, []⟩ => some []
  | ⟨[], [⟨a, none, _⟩], none, [], [], none, []⟩ => if a = "number" then some [a] else none
  | _ => none
def ownOf (c : Ctx) : List Str → Option (List Nat)
  | [] => some []
  | [a] => (match slotOf c.N a with
    | some i => some [i]
    | none => none)
  | _ => none
/-- the slots of what it holds -/
def freeOf : List Str → Nat → List (Str × NameKind) → List Nat
  | [], _, _ => []
  | x :: r, i, names => if names.lookup x = some .free then i :: freeOf r (i + 1) names else freeOf r (i + 1) names
/-- two calls, the one within the other -/
inductive NestK where
  | lenSet | sortSet | listZip
def nestOf (x : Str) : List Expr → Option (NestK × List Expr)
  | [.Call (.Name y _) ys [] _] => if x = "len" ∧ y = "set" ∧ ys.length = 1 then some (.lenSet, ys) else if x = "sorted" ∧ y = "set" ∧ ys.length = 1 then some (.sortSet, ys) else if x = "list" ∧ y = "zip" ∧ ys.length = 2 then some (.listZip, ys) else none
  | _ => none
def maxdOf (x : Str) : List Expr → Keyword → Option (Expr × Int)
  | [a], ⟨some k, .Constant (.int i) _ _, _⟩ => if x = "max" ∧ k = "default" then some (a, i) else none
  | _, _ => none
def zipOf : Expr → Option (List Expr)
  | .Call (.Name x _) [a, b] [] _ => if x = "zip" then some [a, b] else none
  | _ => none
def enumOf : Expr → Option (List Expr)
  | .Call (.Name x _) [a] [] _ => if x = "enumerate" then some [a] else none
  | _ => none
def isTup : Expr → Bool
  | .Tuple _ _ _ => true
  | _ => false
def ob {α β : Type} (a : Option α) (f : α → Option β) : Option β := match a with
  | some x => f x
  | none => none
def og {β : Type} (p : Prop) [Decidable p] (r : Option β) : Option β := if p then r else none
/-- a sum of lists that will change -/
def opOfM (c : Ctx) (op : Operator) (pos : Pos) : Option WO := if isMu c pos = true then (match op with
  | .Add => some oAddM
  | _ => none) else opOf op
/-- a method that is read by itself: marked, or by its name -/
def specM (c : Ctx) (name : Str) (pos : Pos) : Bool := decide (name = "setdefault") || decide (name = "get") || isMu c pos
mutual
def trE : Nat → Ctx → Expr → Option WE
  | 0, _, _ => none
  | n + 1, c, e => match e with
    | .Constant (.int i) _ _ => some (wC (.int i))
    | .Constant (.bool b) _ _ => some (wC (.bl b))
    | .Constant .none _ _ => some (wC .non)
    | .Constant (.str x) _ _ => some (wC (.str x))
    | .Name x _ => trName c x
    | .BinOp a op b pos => ob (opOfM c op pos) fun f => ob (trE n c a) fun ta => ob (trE n c b) fun tb => some (wOp f ta tb)
    | .UnaryOp .Not a _ => ob (trE n c a) fun ta => some (wNot ta)
    | .UnaryOp .USub a _ => ob (trE n c a) fun ta => some (wUn oNeg ta)
    | .BoolOp op es _ => trBV n c op es
    | .IfExp t a b _ => ob (trT n c t) fun tt => ob (trE n c a) fun ta => ob (trE n c b) fun tb => some (wIf tt ta tb)
    | .Compare a ops bs _ => trCmp n c a ops bs
    | .Call (.Name x _) args kws pos => if x = "list" ∧ kws.length = 0 ∧ isMu c pos = true then og (isVis c x = false ∧ plainName x = true ∧ isGlob c x = true ∧ args.all notStar = true ∧ x ∈ c.bl ∧ noArgs args = false) (ob (trA n c args) fun t => some (wCB fListM t)) else trCalls n c x args kws
    | .Call (.Attribute o name apos) args [] pos => trMeth n c o name apos args pos
    | .Subscript a (.Slice lo hi none _) _ => ob (trE n c a) fun ta => ob (trP n c lo) fun tl => ob (trP n c hi) fun th => some (wSl ta tl th)
    | .Subscript a (.Slice none none (some (.UnaryOp .USub (.Constant (.int 1) _ _) _)) _) _ => ob (trE n c a) fun ta => some (wRev ta)
    | .Subscript a b _ => og (notSlice b = true) (ob (trE n c a) fun ta => ob (trE n c b) fun tb => some (wOp oIx ta tb))
    | .Tuple es _ _ => ob (trA n c es) fun t => some (wTup t)
    | .List es pos => ob (trA n c es) fun t => some (if isMu c pos = true then wLstM t else wLst t)
    | .Dict keys values pos => if isMu c pos = true ∧ keys.isEmpty = false then ob (keyKs keys) fun ks => ob (trA n c values) fun t => og (ks.length = values.length ∧ ks ≠ [] ∧ ks.length ≤ 15 ∧ ks.Nodup) (some (wDctL ks t)) else ob (keyStrs keys) fun ks => ob (trA n c values) fun t => if ks = [] ∧ noArgs values = true then some (if isMu c pos = true then wDctM else wC (.dct [])) else og (ks.length = values.length ∧ ks ≠ [] ∧ ks.length ≤ 15 ∧ ks.Nodup) (some (wDct ks t))
    | .JoinedStr vs _ => ob (trJ n c vs) fun ts => og (2 ≤ vs.length) (some (wJoined ts))
    | .FormattedValue e k none _ => og (k = -1) (ob (trE n c e) fun t => some (wFmt t))
    | .Attribute o f _ => ob (trE n c o) fun to => og (notCall0 o = true) (some (wFld (fldCls c.flds f) f to))
    | .ListComp elt gs scope pos => ob (trLc n c elt gs scope) fun q => some (if isMu c pos = true then wLcM q.1 q.2.1 q.2.2.1 q.2.2.2 else wLc q.1 q.2.1 q.2.2.1 q.2.2.2)
    | _ => none
def trJ : Nat → Ctx → List Expr → Option (List WE)
  | 0, _, _ => none
  | n + 1, c, es => match es with
    | [] => some []
    | e :: r => ob (trE n c e) fun t => ob (trJ n c r) fun ts => some (t :: ts)
def trP : Nat → Ctx → Option Expr → Option WP
  | 0, _, _ => none
  | n + 1, c, o => match o with
    | none => some wNoP
    | some e => ob (trE n c e) fun t => some (wP t)
def trBV : Nat → Ctx → BoolOp → List Expr → Option WE
  | 0, _, _, _ => none
  | n + 1, c, op, es => match es with
    | [] => none
    | a :: rest => match rest with
      | [] => trE n c a
      | _ :: _ => ob (trE n c a) fun ta => ob (trBV n c op rest) fun tb => some (match op with
        | .And => wAnd ta tb
        | .Or => wOr ta tb)
def trCmp : Nat → Ctx → Expr → List CmpOp → List Expr → Option WE
  | 0, _, _, _, _ => none
  | n + 1, c, a, ops, bs => match ops, bs with
    | [op], [b] => ob (cmpOf op) fun f => ob (trE n c a) fun ta => ob (trE n c b) fun tb => og (notSet b = true) (some (wOp f ta tb))
    | [op, op'], [b, d] => ob (cmpOf op) fun f => ob (cmpOf op') fun f' => ob (trE n c a) fun ta => ob (trE n c b) fun tb => ob (trE n c d) fun td => og (notSet d = true) (some (wChain f f' ta tb td))
    | [op, op', op2], [b, d, e] => ob (cmpOf op) fun f => ob (cmpOf op') fun f' => ob (cmpOf op2) fun f2 => ob (trE n c a) fun ta => ob (trE n c b) fun tb => ob (trE n c d) fun td => ob (trE n c e) fun te => og (notSet e = true) (some (wChain3 f f' f2 ta tb td te))
    | _, _ => none
def trA : Nat → Ctx → List Expr → Option WA
  | 0, _, _ => none
  | n + 1, c, es => match es with
    | [] => some wNil
    | e :: r => ob (trE n c e) fun t => ob (trA n c r) fun u => og (notStar e = true) (some (wCons t u))
def trCalls : Nat → Ctx → Str → List Expr → List Keyword → Option WE
  | 0, _, _, _, _ => none
  | n + 1, c, x, args, kws => match kws with
    | [] => (match lamOf args with
      | some q => trLam n c x q
      | none => (match nestOf x args with
        | some q => trNest n c x q
        | none => trCall n c x args))
    | [kw] => ob (maxdOf x args kw) fun q => ob (trE n c q.1) fun t => og (isGlob c "max" = true ∧ ("max" : Str) ∈ c.bl ∧ notStar q.1 = true) (some (wMaxD t q.2))
    | _ => none
def trLam : Nat → Ctx → Str → (Arguments × Expr × Scope × List Expr) → Option WE
  | 0, _, _, _ => none
  | n + 1, c, x, q => og (plainName x = true ∧ isGlob c x = true ∧ q.2.2.2.all notStar = true ∧ c.mkr = true) (ob (parsOf q.1) fun ps => ob (findH c.hfs x (q.2.2.2.length + 1)) fun hC => ob (ownOf c ps) fun own =>
      ob (trE n (c.lam q.2.2.1) q.2.1) fun tb => ob (trA n c q.2.2.2) fun t => og (lamPB c.sc q.2.2.1 ps = true ∧ ps.length = hC.1) (some (wLam hC.2 c.N.length (freeOf c.N 0 q.2.2.1.names) own tb (q.2.2.2.length + 1) t)))
def trNest : Nat → Ctx → Str → (NestK × List Expr) → Option WE
  | 0, _, _, _ => none
  | n + 1, c, x, q => match q.1, q.2 with
    | .lenSet, [a] => og (isGlob c "len" = true ∧ ("len" : Str) ∈ c.bl ∧ isGlob c "set" = true ∧ ("set" : Str) ∈ c.bl ∧ notStar a = true) (ob (trE n c a) fun t => some (wLenSet t))
    | .sortSet, [a] => og (isGlob c "sorted" = true ∧ ("sorted" : Str) ∈ c.bl ∧ isGlob c "set" = true ∧ ("set" : Str) ∈ c.bl ∧ notStar a = true) (ob (trE n c a) fun t => some (wSortSet t))
    | .listZip, [a, b] => og (isGlob c "list" = true ∧ ("list" : Str) ∈ c.bl ∧ isGlob c "zip" = true ∧ ("zip" : Str) ∈ c.bl ∧ notStar a = true ∧ notStar b = true) (ob (trA n c [a, b]) fun t => some (wListZip t))
    | _, _ => none
def trCall : Nat → Ctx → Str → List Expr → Option WE
  | 0, _, _, _ => none
  | n + 1, c, x, args => if isVis c x = true then ob (slotOf c.N x) fun i => ob (findL c.lams i) fun q => og (plainName x = true ∧ args.all notStar = true) (ob (trA n c args) fun t => some (wCallV i q.2.1 q.1 q.2.2 t))
    else og (plainName x = true ∧ isGlob c x = true ∧ args.all notStar = true)
      (match findN c.fns x args.length with
      | some q => ob (trA n c args) fun t => some (wCall args.length q t)
      | none => match findN c.mkc x args.length with
        | some q => ob (trA n c args) fun t => some (wMake x args.length q t)
        | none => og (x ∈ c.bl) (if x = "isinstance" then ob (isiArgs args) fun q => og (plainName q.2 = true ∧ isGlob c q.2 = true ∧ q.2 ∈ c.bl) (ob (find3 tyTab q.2) fun t => ob (trE n c q.1) fun te => some (wUn (oIsi t) te))
        else ob (find3 bltTab x) fun q => ob (trA n c args) fun t => og (noArgs args = false) (some (wCB q.2 t))))
def trMeth : Nat → Ctx → Expr → Str → Pos → List Expr → Pos → Option WE
  | 0, _, _, _, _, _, _ => none
  | n + 1, c, o, name, apos, args, pos => og (notCall0 o = true ∧ (apos.endLine == pos.line) = true)
      (match findM c.mths name args.length with
      | some q => ob (trE n c o) fun to => ob (trA n c args) fun t => og (args.all notStar = true ∧ decide (args.length + 0 + 0 < 30) = true) (some (wMeth q.1 name args.length q.2 to t))
      | none => match args with
      | [] => ob (find3 mthTab0 name) fun q => ob (trE n c o) fun to => some (wBM q.1 q.2.2 to wNil)
      | e :: es => if specM c name pos = true then trSetd n c o name e es else ob (find3 mthTab name) fun q => ob (trE n c o) fun to => ob (trA n c (e :: es)) fun t => og ((e :: es).all notStar = true ∧ decide ((e :: es).length + 0 + 0 < 30) = true) (some (wBM q.1 q.2.2 to t)))
def trSetd : Nat → Ctx → Expr → Str → Expr → List Expr → Option WE
  | 0, _, _, _, _, _ => none
  | n + 1, c, o, name, e, es => match es with
    | [f] => og (notStar e = true ∧ notStar f = true) (ob (trE n c o) fun to => ob (trE n c e) fun te => ob (trE n c f) fun tf => if name = "setdefault" then some (wSetd to te tf) else if name = "get" then some (wGet2 to te tf) else none)
    | [] => og (notStar e = true ∧ name = "count") (ob (trE n c o) fun to => ob (trA n c [e]) fun t => some (wBMt mCountT to t))
    | _ => none
def trT : Nat → Ctx → Expr → Option WT
  | 0, _, _ => none
  | n + 1, c, e => match e with
    | .UnaryOp .Not a _ => ob (trT n c a) fun t => some (wTNot t)
    | .BoolOp op es _ => trTB n c op es
    | .Compare a ops bs _ => ob (trCmp n c a ops bs) fun t => some (wTB t)
    | e => og (plainTest e = true) (ob (trE n c e) fun t => some (wTru t))
def trTB : Nat → Ctx → BoolOp → List Expr → Option WT
  | 0, _, _, _ => none
  | n + 1, c, op, es => match es with
    | [] => none
    | a :: rest => match rest with
      | [] => trT n c a
      | _ :: _ => ob (trT n c a) fun ta => ob (trTB n c op rest) fun tb => some (match op with
        | .And => wTAnd ta tb
        | .Or => wTOr ta tb)
def trI : Nat → Ctx → Expr → Option WI
  | 0, _, _ => none
  | n + 1, c, e => match rangeOf e with
    | some args => og (isGlob c "range" = true ∧ ("range" : Str) ∈ c.bl ∧ args.all notStar = true) (match args with
        | [_] => ob (trA n c args) fun t => some (wRange1 t)
        | [_, _] => ob (trA n c args) fun t => some (wRange2 t)
        | [_, _, _] => ob (trA n c args) fun t => some (wRange3 t)
        | _ => none)
    | none => ob (trE n c e) fun t => some (wIt t)
def trIT : Nat → Ctx → Expr → Expr → Option WI
  | 0, _, _, _ => none
  | n + 1, c, tg, e => match zipOf e with
    | some args => og (isTup tg = true ∧ isGlob c "zip" = true ∧ ("zip" : Str) ∈ c.bl ∧ args.all notStar = true) (ob (trA n c args) fun t => some (wZip t))
    | none => (match enumOf e with
      | some args => og (isTup tg = true ∧ isGlob c "enumerate" = true ∧ ("enumerate" : Str) ∈ c.bl ∧ args.all notStar = true) (ob (trA n c args) fun t => some (wEnum t))
      | none => trI n c e)
def trLc : Nat → Ctx → Expr → List Comprehension → Scope → Option (WI × Tgt × WT × WE)
  | 0, _, _, _, _ => none
  | n + 1, c, elt, gs, scope => match gs with
    | [⟨tg, iter, ifs, 0⟩] => ob (tgtOf (c.inn scope) tg) fun q => ob (trIT n c tg iter) fun it => ob (trE n (c.inn scope) elt) fun te => og (blkC c.N c.sc scope q.1 = true ∧ notSet iter = true) (match ifs with
          | [] => some (it, q.2, wYes, te)
          | [t] => ob (trT n (c.inn scope) t) fun tt => some (it, q.2, tt, te)
          | _ => none)
    | _ => none
end
end FW

namespace FW
open PySem PySem.Spec L2
structure TrOk (n : Nat) : Prop where
  e : ∀ {X : Cx} {E : XK} {c : Ctx}, CtxOk X E c → ∀ {e : Expr} {t : WE}, trE n c e = some t → PE X e (tM (gOf X) E t)
  p : ∀ {X : Cx} {E : XK} {c : Ctx}, CtxOk X E c → ∀ {e : Option Expr} {t : WP}, trP n c e = some t → PO X e (tMP (gOf X) E t)
  j : ∀ {X : Cx} {E : XK} {c : Ctx}, CtxOk X E c → ∀ {es : List Expr} {ts : List WE}, trJ n c es = some ts → PJW X E es ts
  bv : ∀ {X : Cx} {E : XK} {c : Ctx}, CtxOk X E c → ∀ {op : BoolOp} {es : List Expr} {t : WE}, trBV n c op es = some t → ∀ {pos : Pos}, PE X (.BoolOp op es pos) (tM (gOf X) E t)
  cmp : ∀ {X : Cx} {E : XK} {c : Ctx}, CtxOk X E c → ∀ {a : Expr} {ops : List CmpOp} {bs : List Expr} {t : WE}, trCmp n c a ops bs = some t → ∀ {pos : Pos}, PE X (.Compare a ops bs pos) (tM (gOf X) E t) ∧ PT X (.Compare a ops bs pos) (tMT (gOf X) E (wTB t))
  a : ∀ {X : Cx} {E : XK} {c : Ctx}, CtxOk X E c → ∀ {es : List Expr} {t : WA}, trA n c es = some t → PA X es (tMA (gOf X) E t)
  call : ∀ {X : Cx} {E : XK} {c : Ctx}, CtxOk X E c → ∀ {x : Str} {args : List Expr} {t : WE}, trCall n c x args = some t → ∀ {p pos : Pos}, PE X (.Call (.Name x p) args [] pos) (tM (gOf X) E t)
  calls : ∀ {X : Cx} {E : XK} {c : Ctx}, CtxOk X E c → ∀ {x : Str} {args : List Expr} {kws : List Keyword} {t : WE}, trCalls n c x args kws = some t → ∀ {p pos : Pos}, PE X (.Call (.Name x p) args kws pos) (tM (gOf X) E t)
  lam : ∀ {X : Cx} {E : XK} {c : Ctx}, CtxOk X E c → ∀ {x : Str} {q : Arguments × Expr × Scope × List Expr} {t : WE}, trLam n c x q = some t → ∀ {p pos lpos : Pos}, PE X (.Call (.Name x p) (.Lambda q.1 q.2.1 q.2.2.1 lpos :: q.2.2.2) [] pos) (tM (gOf X) E t)
  nest : ∀ {X : Cx} {E : XK} {c : Ctx}, CtxOk X E c → ∀ {x : Str} {args : List Expr} {q : NestK × List Expr} {t : WE}, nestOf x args = some q → trNest n c x q = some t → ∀ {p pos : Pos}, PE X (.Call (.Name x p) args [] pos) (tM (gOf X) E t)
  meth : ∀ {X : Cx} {E : XK} {c : Ctx}, CtxOk X E c → ∀ {o : Expr} {name : Str} {apos pos : Pos} {args : List Expr} {t : WE}, trMeth n c o name apos args pos = some t → PE X (.Call (.Attribute o name apos) args [] pos) (tM (gOf X) E t)
  setd : ∀ {X : Cx} {E : XK} {c : Ctx}, CtxOk X E c → ∀ {o e : Expr} {es : List Expr} {name : Str} {t : WE} {apos pos : Pos}, trSetd n c o name e es = some t → notCall0 o = true → (apos.endLine == pos.line) = true → PE X (.Call (.Attribute o name apos) (e :: es) [] pos) (tM (gOf X) E t)
  t : ∀ {X : Cx} {E : XK} {c : Ctx}, CtxOk X E c → ∀ {e : Expr} {t : WT}, trT n c e = some t → PT X e (tMT (gOf X) E t)
  tb : ∀ {X : Cx} {E : XK} {c : Ctx}, CtxOk X E c → ∀ {op : BoolOp} {es : List Expr} {t : WT}, trTB n c op es = some t → ∀ {pos : Pos}, PW X (.BoolOp op es pos) (tMT (gOf X) E t)
  i : ∀ {X : Cx} {E : XK} {c : Ctx}, CtxOk X E c → ∀ {e : Expr} {t : WI}, trI n c e = some t → ∀ {tg : Expr}, PI X tg e (tMI (gOf X) E t)
  it : ∀ {X : Cx} {E : XK} {c : Ctx}, CtxOk X E c → ∀ {tg e : Expr} {t : WI}, trIT n c tg e = some t → PI X tg e (tMI (gOf X) E t)
  lc : ∀ {X : Cx} {E : XK} {c : Ctx}, CtxOk X E c → ∀ {elt : Expr} {gs : List Comprehension} {scope : Scope} {it : WI} {T : Tgt} {tt : WT} {te : WE}, trLc n c elt gs scope = some (it, T, tt, te) →
    ∃ tg iter ifs own, gs = [⟨tg, iter, ifs, 0⟩] ∧ PI X tg iter (tMI (gOf X) E it) ∧ LcOk X scope own tg elt ifs T tt te ∧ (∀ x, foldedSetIterable iter X.env x = pure x)
theorem trOk0 : TrOk 0 := by
  constructor <;> intros <;> first | (rename_i h; cases h; done) | (rename_i h _; cases h; done) | (rename_i h _ _; cases h; done) | (rename_i h _ _ _; cases h; done)
theorem ob_ok {α β : Type} {a : Option α} {f : α → Option β} {r : β} (h : ob a f = some r) : ∃ x, a = some x ∧ f x = some r := by
  cases a with
  | none => cases h
  | some x => exact ⟨x, rfl, h⟩
theorem og_ok {β : Type} {p : Prop} [Decidable p] {a : Option β} {r : β} (h : og p a = some r) : p ∧ a = some r := by
  unfold og at h
  split at h
  · exact ⟨by assumption, h⟩
  · cases h
section
variable {n : Nat} {X : Cx} {E : XK} {c : Ctx}
theorem trName_ok (ok : CtxOk X E c) {x : Str} {t : WE} (h : trName c x = some t) {pos : Pos} : PE X (.Name x pos) (tM (gOf X) E t) := by
  unfold trName at h
  split at h
  · rename_i hp
    obtain ⟨p1, p2, p3⟩ := plainName_ok hp
    split at h
    · rename_i hv
      split at h
      · rename_i i hi
        cases h
        exact w_var (by rw [ok.hN]; exact slotOf_ok hi) (ok.vis hv) p1 p2
      · cases h
    · split at h
      · rename_i hg
        split at h
        · rename_i w hw
          cases h
          obtain ⟨u, v, h1, h2, h3⟩ := ok.cok x w (find3_mem hw)
          exact w_glob (ok.gl hg) h1 h2 h3 p1
        · cases h
      · cases h
  · cases h
theorem keyKs_ok (ok : CtxOk X E c) {pos : Pos} : ∀ {m : Nat} {keys : List (Option Expr)} {values : List Expr} {ks : List Key} {t : WA}, (∀ k, k ≤ m → TrOk k) → keyKs keys = some ks → trA m c values = some t → ks.length = values.length → PPK X E pos keys values ks t
  | 0, _, _, _, _, _, _, h, _ => by cases h
  | m + 1, keys, values, ks, t, ih, hk, hv, hl => by
    cases values with
    | nil =>
      unfold trA at hv
      cases hv
      cases ks with
      | cons _ _ => simp at hl
      | nil =>
        cases keys with
        | nil => exact ppk_nil
        | cons a r =>
          exfalso
          cases a with
          | none => cases hk
          | some e =>
            cases e with
            | Constant v j p =>
              cases v with
              | str s =>
                simp only [keyKs] at hk
                split at hk <;> cases hk
              | int s =>
                simp only [keyKs] at hk
                split at hk <;> cases hk
              | _ => cases hk
            | _ => cases hk
    | cons e r =>
      unfold trA at hv
      obtain ⟨te, h1, hv⟩ := ob_ok hv
      obtain ⟨u, h2, hv⟩ := ob_ok hv
      obtain ⟨_, hv⟩ := og_ok hv
      cases hv
      cases keys with
      | nil => cases hk; simp at hl
      | cons a kr =>
        cases a with
        | none => cases hk
        | some ke =>
          cases ke with
          | Constant v j p =>
            cases v with
            | str s =>
              simp only [keyKs] at hk
              cases h3 : keyKs kr with
              | none => rw [h3] at hk; cases hk
              | some l =>
                rw [h3] at hk
                cases hk
                exact ppk_str ((ih m (Nat.le_succ m)).e ok h1) (keyKs_ok ok (fun k hk => ih k (Nat.le_succ_of_le hk)) h3 h2 (by simpa using hl))
            | int s =>
              simp only [keyKs] at hk
              cases h3 : keyKs kr with
              | none => rw [h3] at hk; cases hk
              | some l =>
                rw [h3] at hk
                cases hk
                exact ppk_int ((ih m (Nat.le_succ m)).e ok h1) (keyKs_ok ok (fun k hk => ih k (Nat.le_succ_of_le hk)) h3 h2 (by simpa using hl))
            | _ => cases hk
          | _ => cases hk
theorem keyStrs_ok (ok : CtxOk X E c) {pos : Pos} : ∀ {m : Nat} {keys : List (Option Expr)} {values : List Expr} {ks : List Str} {t : WA}, (∀ k, k ≤ m → TrOk k) → keyStrs keys = some ks → trA m c values = some t → ks.length = values.length → PPW X E pos keys values ks t
  | 0, _, _, _, _, _, _, h, _ => by cases h
  | m + 1, keys, values, ks, t, ih, hk, hv, hl => by
    cases values with
    | nil =>
      unfold trA at hv
      cases hv
      cases ks with
      | cons _ _ => simp at hl
      | nil =>
        cases keys with
        | nil => exact pp_nil
        | cons a r =>
          exfalso
          cases a with
          | none => cases hk
          | some e =>
            cases e with
            | Constant v j p =>
              cases v with
              | str s =>
                simp only [keyStrs] at hk
                split at hk <;> cases hk
              | _ => cases hk
            | _ => cases hk
    | cons e r =>
      unfold trA at hv
      obtain ⟨te, h1, hv⟩ := ob_ok hv
      obtain ⟨u, h2, hv⟩ := ob_ok hv
      obtain ⟨_, hv⟩ := og_ok hv
      cases hv
      cases keys with
      | nil => cases hk; simp at hl
      | cons a kr =>
        cases a with
        | none => cases hk
        | some ke =>
          cases ke with
          | Constant v j p =>
            cases v with
            | str s =>
              simp only [keyStrs] at hk
              cases h3 : keyStrs kr with
              | none => simp [h3] at hk
              | some l =>
                simp only [h3] at hk
                cases hk
                exact pp_cons ((ih m (Nat.le_succ m)).e ok h1) (keyStrs_ok ok (fun k hk => ih k (Nat.le_succ_of_le hk)) h3 h2 (by simpa using hl))
            | _ => cases hk
          | _ => cases hk
theorem step_p (ih : ∀ k, k ≤ n → TrOk k) (ok : CtxOk X E c) {e : Option Expr} {t : WP} (h : trP (n + 1) c e = some t) : PO X e (tMP (gOf X) E t) := by
  unfold trP at h
  cases e with
  | none => cases h; exact w_pnone
  | some e =>
    obtain ⟨x, h1, h2⟩ := ob_ok h
    cases h2
    exact w_psome ((ih n (Nat.le_refl n)).e ok h1)
theorem step_j (ih : ∀ k, k ≤ n → TrOk k) (ok : CtxOk X E c) {es : List Expr} {ts : List WE} (h : trJ (n + 1) c es = some ts) : PJW X E es ts := by
  have T := ih n (Nat.le_refl n)
  unfold trJ at h
  cases es with
  | nil => cases h; exact .nil
  | cons e r =>
    obtain ⟨x, h1, h⟩ := ob_ok h
    obtain ⟨y, h2, h⟩ := ob_ok h
    cases h
    exact .cons (T.e ok h1) (T.j ok h2)
theorem step_bv (ih : ∀ k, k ≤ n → TrOk k) (ok : CtxOk X E c) {op : BoolOp} {es : List Expr} {t : WE} (h : trBV (n + 1) c op es = some t) {pos : Pos} : PE X (.BoolOp op es pos) (tM (gOf X) E t) := by
  have T := ih n (Nat.le_refl n)
  unfold trBV at h
  cases es with
  | nil => cases h
  | cons a rest =>
    cases rest with
    | nil => exact w_one (T.e ok h)
    | cons b r =>
      obtain ⟨x, h1, h⟩ := ob_ok h
      obtain ⟨y, h2, h⟩ := ob_ok h
      cases h
      cases op with
      | And => exact w_and (T.e ok h1) (T.bv ok h2)
      | Or => exact w_or (T.e ok h1) (T.bv ok h2)
theorem step_tb (ih : ∀ k, k ≤ n → TrOk k) (ok : CtxOk X E c) {op : BoolOp} {es : List Expr} {t : WT} (h : trTB (n + 1) c op es = some t) {pos : Pos} : PW X (.BoolOp op es pos) (tMT (gOf X) E t) := by
  have T := ih n (Nat.le_refl n)
  unfold trTB at h
  cases es with
  | nil => cases h
  | cons a rest =>
    cases rest with
    | nil =>
      cases op with
      | And => exact w_tand1 (T.t ok h)
      | Or => exact w_tor1 (T.t ok h)
    | cons b r =>
      obtain ⟨x, h1, h⟩ := ob_ok h
      obtain ⟨y, h2, h⟩ := ob_ok h
      cases h
      cases op with
      | And => exact w_tand (T.t ok h1) (T.tb ok h2)
      | Or => exact w_tor (T.t ok h1) (T.tb ok h2)
theorem step_cmp (ih : ∀ k, k ≤ n → TrOk k) (ok : CtxOk X E c) {a : Expr} {ops : List CmpOp} {bs : List Expr} {t : WE} (h : trCmp (n + 1) c a ops bs = some t) {pos : Pos} : PE X (.Compare a ops bs pos) (tM (gOf X) E t) ∧ PT X (.Compare a ops bs pos) (tMT (gOf X) E (wTB t)) := by
  have T := ih n (Nat.le_refl n)
  unfold trCmp at h
  split at h
  · obtain ⟨f, h1, h⟩ := ob_ok h
    obtain ⟨x, h2, h⟩ := ob_ok h
    obtain ⟨y, h3, h⟩ := ob_ok h
    obtain ⟨hs, h⟩ := og_ok h
    cases h
    have o := cmpOf_ok (X := X) ok.hu h1
    exact ⟨w_cmp o (T.e ok h2) (T.e ok h3) (behind_no hs), w_tcmp o (T.e ok h2) (T.e ok h3) (behind_no hs)⟩
  · rename_i op op' b d
    obtain ⟨f, h1, h⟩ := ob_ok h
    obtain ⟨f', h2, h⟩ := ob_ok h
    obtain ⟨x, h3, h⟩ := ob_ok h
    obtain ⟨y, h4, h⟩ := ob_ok h
    obtain ⟨z, h5, h⟩ := ob_ok h
    obtain ⟨hs, h⟩ := og_ok h
    cases h
    have o := cmpOf_ok (X := X) ok.hu h1
    have o' := cmpOf_ok (X := X) ok.hu h2
    have hm : lastMarks [op, op'] [b, d] = false := behind_no hs
    exact ⟨w_chain o o' (T.e ok h3) (T.e ok h4) (T.e ok h5) hm, w_tchain o o' (T.e ok h3) (T.e ok h4) (T.e ok h5) hm⟩
  · rename_i op op' op2 b d e
    obtain ⟨f, h1, h⟩ := ob_ok h
    obtain ⟨f', h2, h⟩ := ob_ok h
    obtain ⟨f2, h2', h⟩ := ob_ok h
    obtain ⟨x, h3, h⟩ := ob_ok h
    obtain ⟨y, h4, h⟩ := ob_ok h
    obtain ⟨z, h5, h⟩ := ob_ok h
    obtain ⟨z', h6, h⟩ := ob_ok h
    obtain ⟨hs, h⟩ := og_ok h
    cases h
    have o := cmpOf_ok (X := X) ok.hu h1
    have o' := cmpOf_ok (X := X) ok.hu h2
    have o2 := cmpOf_ok (X := X) ok.hu h2'
    have hm : lastMarks [op, op', op2] [b, d, e] = false := behind_no hs
    exact ⟨w_chain3 o o' o2 (T.e ok h3) (T.e ok h4) (T.e ok h5) (T.e ok h6) hm, w_tchain3 o o' o2 (T.e ok h3) (T.e ok h4) (T.e ok h5) (T.e ok h6) hm⟩
  · cases h
theorem step_a (ih : ∀ k, k ≤ n → TrOk k) (ok : CtxOk X E c) {es : List Expr} {t : WA} (h : trA (n + 1) c es = some t) : PA X es (tMA (gOf X) E t) := by
  have T := ih n (Nat.le_refl n)
  unfold trA at h
  cases es with
  | nil => cases h; exact w_nil
  | cons e r =>
    obtain ⟨x, h1, h⟩ := ob_ok h
    obtain ⟨y, h2, h⟩ := ob_ok h
    obtain ⟨hs, h⟩ := og_ok h
    cases h
    exact w_cons hs (T.e ok h1) (T.a ok h2)
theorem trLam_get {q : Arguments × Expr × Scope × List Expr} {args : List Expr} (h : lamOf args = some q) : ∃ lpos, args = .Lambda q.1 q.2.1 q.2.2.1 lpos :: q.2.2.2 := by
  unfold lamOf at h
  split at h
  · cases h; exact ⟨_, rfl⟩
  · cases h
theorem ownOf_ok (ok : CtxOk X E c) {ps : List Str} {own : List Nat} (h : ownOf c ps = some own) : OwnAt X.N ps own := by
  match ps, h with
  | [], h => cases h; exact .no
  | [a], h =>
    simp only [ownOf] at h
    split at h
    · rename_i i hi
      cases h
      exact .one (by rw [ok.hN]; exact slotOf_ok hi)
    · cases h
  | _ :: _ :: _, h => cases h
theorem pars_bind {params : Arguments} {ps : List Str} (h : parsOf params = some ps) : (∀ env, defaultsOf params env = ([], [])) ∧ ∀ (q : Str) (body : Expr) (scope : Scope) (cl : List (Str × Addr)) (pm cv ctv : Value) (us : List Value), us.length = ps.length →
    bindArgs (PySem.W.kla_fn "<lambda>" q params body scope cl pm cv ctv) ⟨us, []⟩ = pure (ps.zip us) := by
  unfold parsOf at h
  split at h
  · cases h
    refine ⟨fun env => rfl, fun q body scope cl pm cv ctv us hl => ?_⟩
    match us, hl with
    | [], _ => rfl
  · split at h
    · rename_i e
      cases h
      subst e
      refine ⟨fun env => rfl, fun q body scope cl pm cv ctv us hl => ?_⟩
      match us, hl with
      | [u], _ => rfl
    · cases h
  · cases h
theorem step_lam (ih : ∀ k, k ≤ n → TrOk k) (ok : CtxOk X E c) {x : Str} {q : Arguments × Expr × Scope × List Expr} {t : WE} (h : trLam (n + 1) c x q = some t) {p pos lpos : Pos} : PE X (.Call (.Name x p) (.Lambda q.1 q.2.1 q.2.2.1 lpos :: q.2.2.2) [] pos) (tM (gOf X) E t) := by
  have T := ih n (Nat.le_refl n)
  obtain ⟨params, body, scope, es⟩ := q
  unfold trLam at h
  obtain ⟨⟨hp, hg, hst, hmk⟩, h⟩ := og_ok h
  obtain ⟨p1, p2, p3⟩ := plainName_ok hp
  obtain ⟨ps, h1, h⟩ := ob_ok h
  obtain ⟨⟨nl, C⟩, h2, h⟩ := ob_ok h
  obtain ⟨own, h3, h⟩ := ob_ok h
  obtain ⟨tb, h5, h⟩ := ob_ok h
  obtain ⟨ta, h6, h⟩ := ob_ok h
  obtain ⟨⟨hl, hps⟩, h⟩ := og_ok h
  cases h
  obtain ⟨kl, hf, hmt, hmk2, hh⟩ := ok.hfo
  obtain ⟨k, hr, G⟩ := hh x nl _ C (findH_mem h2)
  obtain ⟨hfn, xm, cc, P, m1, m2, m3, m4⟩ := ok.mko hmk
  have TB := ok.gb.tb _ m1
  have L : LamP X.env.scope scope ps := by rw [ok.hsc]; exact lamP_by hl
  obtain ⟨b1, b2⟩ := pars_bind h1
  have hmem : (P, X.env.qual ++ "<lambda>") ∈ tabT X.K := by
    rw [m3]
    exact List.mem_map.mpr ⟨_, m1, rfl⟩
  rw [← ok.hN]
  exact w_lamcall (kl := kl) (fr := freeOf X.N 0 scope.names) (own := own) (tb := tb) G hr (ok.gl hg) ok.pass ok.gb TB m2 hmem (fun p hp e => (m4 p hp e).trans m3.symm) L hfn ok.nd (ownOf_ok ok h3) hps (b1 _) (fun q cl pm cv ctv us hl => b2 q body scope cl pm cv ctv us hl)
    (fun B A outer s1 H1 E' f c' gb hr' => T.e (ok.lam L.kind hf hmt hmk2 gb A outer s1 H1 E' f c' hr') h5) (T.a ok h6) p1 hst
theorem step_nest (ih : ∀ k, k ≤ n → TrOk k) (ok : CtxOk X E c) {x : Str} {args : List Expr} {q : NestK × List Expr} {t : WE} (hq : nestOf x args = some q) (h : trNest (n + 1) c x q = some t) {p pos : Pos} : PE X (.Call (.Name x p) args [] pos) (tM (gOf X) E t) := by
  have T := ih n (Nat.le_refl n)
  unfold nestOf at hq
  split at hq
  · rename_i y yp ys q2
    split at hq
    · rename_i hh
      obtain ⟨rfl, rfl, hl⟩ := hh
      cases hq
      match ys, hl with
      | [a], _ =>
        obtain ⟨hc, h⟩ := og_ok h
        obtain ⟨ta, h1, h⟩ := ob_ok h
        cases h
        exact w_lenSet ok.calm (ok.gl hc.1) (ok.bok _ hc.2.1) (ok.gl hc.2.2.1) (ok.bok _ hc.2.2.2.1) (T.e ok h1) hc.2.2.2.2
    · split at hq
      · rename_i hh
        obtain ⟨rfl, rfl, hl⟩ := hh
        cases hq
        match ys, hl with
        | [a], _ =>
          obtain ⟨hc, h⟩ := og_ok h
          obtain ⟨ta, h1, h⟩ := ob_ok h
          cases h
          exact w_sortSet ok.calm (ok.gl hc.1) (ok.bok _ hc.2.1) (ok.gl hc.2.2.1) (ok.bok _ hc.2.2.2.1) (T.e ok h1) hc.2.2.2.2
      · split at hq
        · rename_i hh
          obtain ⟨rfl, rfl, hl⟩ := hh
          cases hq
          match ys, hl with
          | [a, b], _ =>
            obtain ⟨hc, h⟩ := og_ok h
            obtain ⟨ta, h1, h⟩ := ob_ok h
            cases h
            exact w_listZip ok.calm (ok.gl hc.1) (ok.bok _ hc.2.1) (ok.gl hc.2.2.1) (ok.bok _ hc.2.2.2.1) (T.a ok h1) hc.2.2.2.2.1 hc.2.2.2.2.2
        · cases hq
  · cases hq
theorem step_calls (ih : ∀ k, k ≤ n → TrOk k) (ok : CtxOk X E c) {x : Str} {args : List Expr} {kws : List Keyword} {t : WE} (h : trCalls (n + 1) c x args kws = some t) {p pos : Pos} : PE X (.Call (.Name x p) args kws pos) (tM (gOf X) E t) := by
  have T := ih n (Nat.le_refl n)
  unfold trCalls at h
  split at h
  · cases hl : lamOf args with
    | some q =>
      rw [hl] at h
      obtain ⟨lpos, rfl⟩ := trLam_get hl
      exact T.lam ok h
    | none =>
      rw [hl] at h
      cases hn : nestOf x args with
      | some q => rw [hn] at h; exact T.nest ok hn h
      | none => rw [hn] at h; exact T.call ok h
  · rename_i kw
    obtain ⟨⟨a, i⟩, h1, h⟩ := ob_ok h
    obtain ⟨ta, h2, h⟩ := ob_ok h
    obtain ⟨hc, h⟩ := og_ok h
    cases h
    unfold maxdOf at h1
    split at h1
    · split at h1
      · rename_i hh
        obtain ⟨rfl, rfl⟩ := hh
        cases h1
        exact w_maxD ok.calm (ok.gl hc.1) (ok.bok _ hc.2.1) (T.e ok h2) hc.2.2
      · cases h1
    · cases h1
  · cases h
theorem trA_nil {t : WA} (h : trA n c [] = some t) : t = wNil := by
  cases n with
  | zero => cases h
  | succ n => unfold trA at h; cases h; rfl
theorem step_call (ih : ∀ k, k ≤ n → TrOk k) (ok : CtxOk X E c) {x : Str} {args : List Expr} {t : WE} (h : trCall (n + 1) c x args = some t) {p pos : Pos} : PE X (.Call (.Name x p) args [] pos) (tM (gOf X) E t) := by
  have T := ih n (Nat.le_refl n)
  unfold trCall at h
  by_cases hvis : isVis c x = true
  · rw [if_pos hvis] at h
    obtain ⟨i, hi, h⟩ := ob_ok h
    obtain ⟨⟨k, F, con⟩, hL, h⟩ := ob_ok h
    obtain ⟨⟨hp, hst⟩, h⟩ := og_ok h
    obtain ⟨p1, p2, p3⟩ := plainName_ok hp
    obtain ⟨ta, h1, h⟩ := ob_ok h
    cases h
    obtain ⟨kk, hr, LF⟩ := ok.lok i k F con (findL_mem hL)
    have pa := T.a ok h1
    have hN : X.N[i]? = some x := by rw [ok.hN]; exact slotOf_ok hi
    cases args with
    | nil =>
      have e := trA_nil h1
      subst e
      exact w_callV0 LF hr hN (ok.vis hvis) ok.pass p1 p2
    | cons e es =>
      rw [List.all_cons, Bool.and_eq_true] at hst
      exact w_callV LF hr hN (ok.vis hvis) ok.pass pa p1 p2 hst.1 hst.2
  rw [if_neg hvis] at h
  obtain ⟨⟨hp, hg, hst⟩, h⟩ := og_ok h
  obtain ⟨p1, p2, p3⟩ := plainName_ok hp
  cases hf : findN c.fns x args.length with
  | some con =>
    rw [hf] at h
    obtain ⟨ta, h1, h⟩ := ob_ok h
    cases h
    obtain ⟨kk, hr, F⟩ := ok.fok x _ con (findN_mem hf)
    have F := F X.base ok.gb
    have pa := T.a ok h1
    cases args with
    | nil =>
      have e := trA_nil h1
      subst e
      exact w_call0 F hr (ok.gl hg) ok.pass p1
    | cons e es =>
      rw [List.all_cons, Bool.and_eq_true] at hst
      exact w_call F hr (ok.gl hg) ok.pass pa p1 hst.1 hst.2
  | none =>
    rw [hf] at h
    simp only [] at h
    cases hf2 : findN c.mkc x args.length with
    | some con =>
      rw [hf2] at h
      obtain ⟨ta, h1, h⟩ := ob_ok h
      cases h
      obtain ⟨kk, hr, F⟩ := ok.kok x _ con (findN_mem hf2)
      have pa := T.a ok h1
      cases args with
      | nil =>
        have e := trA_nil h1
        subst e
        exact w_make0 F ok.gb hr (ok.gl hg) ok.pass p1
      | cons e es =>
        rw [List.all_cons, Bool.and_eq_true] at hst
        exact w_make F ok.gb hr (ok.gl hg) ok.pass pa p1 hst.1 hst.2
    | none =>
    rw [hf2] at h
    obtain ⟨hb, h⟩ := og_ok h
    by_cases hx : x = "isinstance"
    · rw [if_pos hx] at h
      obtain ⟨q, hi, h⟩ := ob_ok h
      obtain ⟨e, Ty⟩ := q
      obtain ⟨⟨t1, t2, t3⟩, h⟩ := og_ok h
      obtain ⟨q1, q2, q3⟩ := plainName_ok t1
      obtain ⟨ty, h1, h⟩ := ob_ok h
      obtain ⟨te, h2, h⟩ := ob_ok h
      cases h
      obtain ⟨b1, b2⟩ := tyTab_ok (find3_mem h1)
      have ea : ∃ p2, args = [e, .Name Ty p2] := by
        unfold isiArgs at hi
        split at hi
        · cases hi; exact ⟨_, rfl⟩
        · cases hi
      obtain ⟨p2', rfl⟩ := ea
      rw [List.all_cons, Bool.and_eq_true] at hst
      exact w_isi hx (ok.gl hg) (ok.bok x hb) (ok.gl t2) (ok.bok Ty t3) b1 b2 q3 q1 hst.1 (T.e ok h2)
    · rw [if_neg hx] at h
      obtain ⟨q, h1, h⟩ := ob_ok h
      obtain ⟨k, f⟩ := q
      obtain ⟨ta, h2, h⟩ := ob_ok h
      obtain ⟨hne, h⟩ := og_ok h
      cases h
      obtain ⟨c1, c2⟩ := bltTab_ok ok.calm (find3_mem h1)
      cases args with
      | nil => cases hne
      | cons e es =>
        rw [List.all_cons, Bool.and_eq_true] at hst
        have pa := T.a ok h2
        cases k with
        | fn id => exact w_callB c1 (ok.gl hg) (ok.bok x hb) c2 pa p3 p1 hst.1 hst.2
        | ty Ty => exact w_callTy c1 (ok.gl hg) (ok.bok x hb) c2 pa p3 p1 hst.1 hst.2
theorem step_setd (ih : ∀ k, k ≤ n → TrOk k) (ok : CtxOk X E c) {o e : Expr} {es : List Expr} {name : Str} {t : WE} {apos pos : Pos} (h : trSetd (n + 1) c o name e es = some t) (hb : notCall0 o = true) (hl : (apos.endLine == pos.line) = true) : PE X (.Call (.Attribute o name apos) (e :: es) [] pos) (tM (gOf X) E t) := by
  have T := ih n (Nat.le_refl n)
  unfold trSetd at h
  split at h
  · obtain ⟨hh, h⟩ := og_ok h
    obtain ⟨to, h1, h⟩ := ob_ok h
    obtain ⟨te, h2, h⟩ := ob_ok h
    obtain ⟨tf, h3, h⟩ := ob_ok h
    split at h
    · rename_i e1
      cases h
      subst e1
      exact w_setd (T.e ok h1) (T.e ok h2) (T.e ok h3) (base_no hb) hh.1 hh.2 hl
    · split at h
      · rename_i e1
        cases h
        subst e1
        exact w_get2 (by have := ok.hu; omega) (T.e ok h1) (T.e ok h2) (T.e ok h3) (base_no hb) hh.1 hh.2 hl
      · cases h
  · obtain ⟨⟨hh, e1⟩, h⟩ := og_ok h
    obtain ⟨to, h1, h⟩ := ob_ok h
    obtain ⟨ta, h2, h⟩ := ob_ok h
    cases h
    subst e1
    exact w_bmt PySem.F.slot_tuple_count PySem.F.type_tuple_count mw_countT (T.e ok h1) (T.a ok h2) (base_no hb) (by rw [List.all_cons, hh]; rfl) rfl hl
  · cases h
theorem opOfM_ok {op : Operator} {f : WO} {pos : Pos} (h : opOfM c op pos = some f) : OpW X (binaryOp op) f := by
  unfold opOfM at h
  split at h
  · split at h
    · cases h; exact opw_addM
    · cases h
  · exact opOf_ok h
theorem step_meth (ih : ∀ k, k ≤ n → TrOk k) (ok : CtxOk X E c) {o : Expr} {name : Str} {apos pos : Pos} {args : List Expr} {t : WE} (h : trMeth (n + 1) c o name apos args pos = some t) : PE X (.Call (.Attribute o name apos) args [] pos) (tM (gOf X) E t) := by
  have T := ih n (Nat.le_refl n)
  unfold trMeth at h
  obtain ⟨hh, h⟩ := og_ok h
  cases hfm : findM c.mths name args.length with
  | some q =>
    rw [hfm] at h
    obtain ⟨to, h1, h⟩ := ob_ok h
    obtain ⟨ta, h2, h⟩ := ob_ok h
    obtain ⟨hl, h⟩ := og_ok h
    cases h
    obtain ⟨x, con⟩ := q
    obtain ⟨kk, hr, F⟩ := ok.mok name _ x con (findM_mem hfm)
    have pa := T.a ok h2
    cases args with
    | nil =>
      have e := trA_nil h2
      subst e
      exact w_meth0 F ok.gb hr ok.pass (T.e ok h1) (base_no hh.1) hh.2
    | cons e es => exact w_meth F ok.gb hr ok.pass (T.e ok h1) pa (base_no hh.1) hl.1 hh.2 hl.2
  | none =>
  rw [hfm] at h
  simp only [] at h
  cases args with
  | nil =>
    obtain ⟨q, h1, h⟩ := ob_ok h
    obtain ⟨Ty, id, f⟩ := q
    obtain ⟨to, h2, h⟩ := ob_ok h
    cases h
    obtain ⟨m1, m2, m3, m4⟩ := mthTab0_ok (X := X) (find3_mem h1)
    exact w_bm0 m1 m2 m3 m4 (T.e ok h2) (base_no hh.1) hh.2
  | cons e es =>
    simp only [] at h
    by_cases hn : specM c name pos = true
    · rw [if_pos hn] at h
      exact T.setd ok h hh.1 hh.2
    rw [if_neg hn] at h
    obtain ⟨q, h1, h⟩ := ob_ok h
    obtain ⟨Ty, id, f⟩ := q
    obtain ⟨to, h2, h⟩ := ob_ok h
    obtain ⟨ta, h3, h⟩ := ob_ok h
    obtain ⟨hl, h⟩ := og_ok h
    cases h
    obtain ⟨m1, m2, m3, m4⟩ := mthTab_ok (X := X) (find3_mem h1)
    exact w_bm m1 m2 m3 m4 (T.e ok h2) (T.a ok h3) (base_no hh.1) hl.1 hl.2 hh.2
theorem step_t (ih : ∀ k, k ≤ n → TrOk k) (ok : CtxOk X E c) {e : Expr} {t : WT} (h : trT (n + 1) c e = some t) : PT X e (tMT (gOf X) E t) := by
  have T := ih n (Nat.le_refl n)
  unfold trT at h
  split at h
  · obtain ⟨x, h1, h⟩ := ob_ok h
    cases h
    exact w_tnot (T.t ok h1)
  · exact (T.tb ok h).pt
  · obtain ⟨x, h1, h⟩ := ob_ok h
    cases h
    exact (T.cmp ok h1).2
  · obtain ⟨hp, h⟩ := og_ok h
    obtain ⟨x, h1, h⟩ := ob_ok h
    cases h
    exact w_tru (T.e ok h1) (isTrue_no hp)
theorem rangeOf_ok {e : Expr} {args : List Expr} (h : rangeOf e = some args) : ∃ p pos, e = .Call (.Name "range" p) args [] pos := by
  unfold rangeOf at h
  split at h
  · split at h
    · rename_i hx
      cases h
      subst hx
      exact ⟨_, _, rfl⟩
    · cases h
  · cases h
theorem step_i (ih : ∀ k, k ≤ n → TrOk k) (ok : CtxOk X E c) {e : Expr} {t : WI} (h : trI (n + 1) c e = some t) {tg : Expr} : PI X tg e (tMI (gOf X) E t) := by
  have T := ih n (Nat.le_refl n)
  unfold trI at h
  cases hr : rangeOf e with
  | some args =>
    rw [hr] at h
    obtain ⟨p, pos, rfl⟩ := rangeOf_ok hr
    obtain ⟨hh, h⟩ := og_ok h
    cases args with
    | nil => cases h
    | cons a r =>
      cases r with
      | nil =>
        obtain ⟨x, h1, h⟩ := ob_ok h
        cases h
        have := hh.2.2
        simp only [List.all_cons, List.all_nil, Bool.and_true] at this
        exact i_range1 (ok.gl hh.1) (ok.bok _ hh.2.1) (T.a ok h1) this
      | cons b r =>
        cases r with
        | nil =>
          obtain ⟨x, h1, h⟩ := ob_ok h
          cases h
          have := hh.2.2
          simp only [List.all_cons, List.all_nil, Bool.and_true, Bool.and_eq_true] at this
          exact i_range2 (ok.gl hh.1) (ok.bok _ hh.2.1) (T.a ok h1) this.1 this.2
        | cons d r =>
          cases r with
          | nil =>
            obtain ⟨x, h1, h⟩ := ob_ok h
            cases h
            have := hh.2.2
            simp only [List.all_cons, List.all_nil, Bool.and_true, Bool.and_eq_true] at this
            exact i_range3 (ok.gl hh.1) (ok.bok _ hh.2.1) (T.a ok h1) this.1 this.2.1 this.2.2
          | cons _ _ => cases h
  | none =>
    rw [hr] at h
    obtain ⟨x, h1, h⟩ := ob_ok h
    cases h
    exact i_any (T.e ok h1)
theorem zipOf_ok {e : Expr} {args : List Expr} (h : zipOf e = some args) : ∃ a b p pos, e = .Call (.Name "zip" p) [a, b] [] pos ∧ args = [a, b] := by
  unfold zipOf at h
  split at h
  · split at h
    · rename_i hx
      cases h
      subst hx
      exact ⟨_, _, _, _, rfl, rfl⟩
    · cases h
  · cases h
theorem enumOf_ok {e : Expr} {args : List Expr} (h : enumOf e = some args) : ∃ a p pos, e = .Call (.Name "enumerate" p) [a] [] pos ∧ args = [a] := by
  unfold enumOf at h
  split at h
  · split at h
    · rename_i hx
      cases h
      subst hx
      exact ⟨_, _, _, rfl, rfl⟩
    · cases h
  · cases h
theorem step_it (ih : ∀ k, k ≤ n → TrOk k) (ok : CtxOk X E c) {tg e : Expr} {t : WI} (h : trIT (n + 1) c tg e = some t) : PI X tg e (tMI (gOf X) E t) := by
  have T := ih n (Nat.le_refl n)
  unfold trIT at h
  cases hr : zipOf e with
  | some args =>
    rw [hr] at h
    obtain ⟨a, b, p, pos, rfl, rfl⟩ := zipOf_ok hr
    obtain ⟨hh, h⟩ := og_ok h
    obtain ⟨x, h1, h⟩ := ob_ok h
    cases h
    have hst := hh.2.2.2
    simp only [List.all_cons, List.all_nil, Bool.and_true, Bool.and_eq_true] at hst
    cases tg with
    | Tuple elts kk tpos => exact i_zip (ok.gl hh.2.1) (ok.bok _ hh.2.2.1) (T.a ok h1) hst.1 hst.2
    | _ => cases hh.1
  | none =>
    rw [hr] at h
    simp only [] at h
    cases he : enumOf e with
    | some args =>
      rw [he] at h
      obtain ⟨a, p, pos, rfl, rfl⟩ := enumOf_ok he
      obtain ⟨hh, h⟩ := og_ok h
      obtain ⟨x, h1, h⟩ := ob_ok h
      cases h
      have hst := hh.2.2.2
      simp only [List.all_cons, List.all_nil, Bool.and_true, Bool.and_eq_true] at hst
      cases tg with
      | Tuple elts kk tpos => exact i_enum (ok.gl hh.2.1) (ok.bok _ hh.2.2.1) (T.a ok h1) hst
      | _ => cases hh.1
    | none =>
      rw [he] at h
      exact T.i ok h
theorem step_lc (ih : ∀ k, k ≤ n → TrOk k) (ok : CtxOk X E c) {elt : Expr} {gs : List Comprehension} {scope : Scope} {it : WI} {Tt : Tgt} {tt : WT} {te : WE} (h : trLc (n + 1) c elt gs scope = some (it, Tt, tt, te)) :
    ∃ tg iter ifs own, gs = [⟨tg, iter, ifs, 0⟩] ∧ PI X tg iter (tMI (gOf X) E it) ∧ LcOk X scope own tg elt ifs Tt tt te ∧ (∀ x, foldedSetIterable iter X.env x = pure x) := by
  have T := ih n (Nat.le_refl n)
  unfold trLc at h
  split at h
  · rename_i tg iter ifs
    obtain ⟨q, h1, h⟩ := ob_ok h
    obtain ⟨own, Tt'⟩ := q
    obtain ⟨it', h2, h⟩ := ob_ok h
    obtain ⟨te', h3, h⟩ := ob_ok h
    obtain ⟨hh, h⟩ := og_ok h
    have B0 : BlkOk c.N c.sc scope own := blkOk_by hh.1
    have B : BlkOk X.N X.env.scope scope own := by rw [ok.hN, ok.hsc]; exact B0
    have inn := fun s H C cl fp => ok.inn (scope := scope) B.kind s H C cl fp
    have hsl : own.map (·.2) = Tt'.slots := by
      cases tg with
      | Name x p =>
        simp only [tgtOf] at h1
        split at h1
        · split at h1 <;> cases h1
          rfl
        · cases h1
      | Tuple es k p =>
        simp only [tgtOf] at h1
        split at h1 <;> cases h1
        rfl
      | _ => cases h1
    cases ifs with
    | nil =>
      cases h
      exact ⟨tg, iter, [], own, rfl, T.it ok h2, ⟨B, hsl, fun s H C cl fp => (tgtOf_ok (inn s H C cl fp) h1).1, fun s H C cl fp => w_tests0 (g := gOf X), fun s H C cl fp => T.e (inn s H C cl fp) h3⟩, fold_no hh.2⟩
    | cons t1 r =>
      cases r with
      | nil =>
        obtain ⟨tt', h5, h⟩ := ob_ok h
        cases h
        exact ⟨tg, iter, [t1], own, rfl, T.it ok h2, ⟨B, hsl, fun s H C cl fp => (tgtOf_ok (inn s H C cl fp) h1).1, fun s H C cl fp => w_tests1 (T.t (inn s H C cl fp) h5), fun s H C cl fp => T.e (inn s H C cl fp) h3⟩, fold_no hh.2⟩
      | cons _ _ => cases h
  · cases h
theorem keyStrs_nil {keys : List (Option Expr)} (h : keyStrs keys = some []) : keys = [] := by
  cases keys with
  | nil => rfl
  | cons a r =>
    exfalso
    cases a with
    | none => cases h
    | some e =>
      cases e with
      | Constant v j p =>
        cases v with
        | str s =>
          simp only [keyStrs] at h
          split at h <;> cases h
        | _ => cases h
      | _ => cases h
theorem step_e (ih : ∀ k, k ≤ n → TrOk k) (ok : CtxOk X E c) {e : Expr} {t : WE} (h : trE (n + 1) c e = some t) : PE X e (tM (gOf X) E t) := by
  have T := ih n (Nat.le_refl n)
  have hu1 : X.A.units + 1 < cLine := by have := ok.hu; omega
  unfold trE at h
  split at h
  · cases h; exact w_int
  · cases h; exact w_bl
  · cases h; exact w_non
  · cases h; exact w_str
  · exact trName_ok ok h
  · obtain ⟨f, h1, h⟩ := ob_ok h
    obtain ⟨x, h2, h⟩ := ob_ok h
    obtain ⟨y, h3, h⟩ := ob_ok h
    cases h
    exact w_op (opOfM_ok h1) (T.e ok h2) (T.e ok h3)
  · obtain ⟨x, h1, h⟩ := ob_ok h
    cases h
    exact w_not (T.e ok h1)
  · obtain ⟨x, h1, h⟩ := ob_ok h
    cases h
    exact w_un uw_neg (T.e ok h1)
  · exact T.bv ok h
  · obtain ⟨f, h1, h⟩ := ob_ok h
    obtain ⟨x, h2, h⟩ := ob_ok h
    obtain ⟨y, h3, h⟩ := ob_ok h
    cases h
    exact w_if (T.t ok h1) (T.e ok h2) (T.e ok h3)
  · exact (T.cmp ok h).1
  · rename_i x p args kws pos
    split at h
    · rename_i hh
      obtain ⟨rfl, hk, _⟩ := hh
      obtain ⟨⟨_, hp, hg, hst, hb, hne⟩, h⟩ := og_ok h
      obtain ⟨ta, h1, h⟩ := ob_ok h
      cases h
      have hk : kws = [] := List.length_eq_zero_iff.mp hk
      subst hk
      obtain ⟨p1, p2, p3⟩ := plainName_ok hp
      cases args with
      | nil => cases hne
      | cons e es =>
        rw [List.all_cons, Bool.and_eq_true] at hst
        exact w_callTy cw_listM (ok.gl hg) (ok.bok _ hb) (by decide +kernel) (T.a ok h1) p3 p1 hst.1 hst.2
    · exact T.calls ok h
  · exact T.meth ok h
  · obtain ⟨f, h1, h⟩ := ob_ok h
    obtain ⟨x, h2, h⟩ := ob_ok h
    obtain ⟨y, h3, h⟩ := ob_ok h
    cases h
    exact w_slice (T.e ok h1) (T.p ok h2) (T.p ok h3)
  · obtain ⟨x, h1, h⟩ := ob_ok h
    cases h
    exact w_rev (T.e ok h1)
  · obtain ⟨hs, h⟩ := og_ok h
    obtain ⟨x, h1, h⟩ := ob_ok h
    obtain ⟨y, h2, h⟩ := ob_ok h
    cases h
    exact w_ix hu1 (T.e ok h1) (T.e ok h2) (plainIx_no hs)
  · obtain ⟨x, h1, h⟩ := ob_ok h
    cases h
    exact w_tup (T.a ok h1)
  · obtain ⟨x, h1, h⟩ := ob_ok h
    cases h
    split
    · exact w_lstM (T.a ok h1)
    · exact w_lst (T.a ok h1)
  · rename_i keys values pos
    split at h
    · obtain ⟨ks, h1, h⟩ := ob_ok h
      obtain ⟨ta, h2, h⟩ := ob_ok h
      obtain ⟨hh, h⟩ := og_ok h
      cases h
      have P := keyKs_ok (pos := pos) ok ih h1 h2 hh.1
      refine w_dctL P (fun z => hh.2.1 ?_) (by rw [P.len.1]; exact hh.2.2.1) hh.2.2.2
      have := P.len.1
      rw [z] at this
      exact List.length_eq_zero_iff.mp this.symm
    obtain ⟨ks, h1, h⟩ := ob_ok h
    obtain ⟨ta, h2, h⟩ := ob_ok h
    split at h
    · rename_i hh
      cases h
      have e1 : keys = [] := keyStrs_nil (by rw [h1, hh.1])
      have e2 : values = [] := by
        have := hh.2
        cases values with
        | nil => rfl
        | cons _ _ => cases this
      subst e1 e2
      split
      · exact w_dctM
      · exact w_dct0
    · obtain ⟨hh, h⟩ := og_ok h
      cases h
      have P := keyStrs_ok (pos := pos) ok ih h1 h2 hh.1
      refine w_dct P (fun z => hh.2.1 ?_) (by rw [P.len.1]; exact hh.2.2.1) hh.2.2.2
      have := P.len.1
      rw [z] at this
      exact List.length_eq_zero_iff.mp this.symm
  · rename_i vs pos'
    obtain ⟨ts, h1, h⟩ := ob_ok h
    obtain ⟨hl, h⟩ := og_ok h
    cases h
    have PJ := T.j ok h1
    match vs, hl, PJ with
    | v1 :: v2 :: rest, _, PJ => exact w_joined PJ
    | [], hl, _ => simp at hl
    | [_], hl, _ => simp at hl
  · obtain ⟨hk, h⟩ := og_ok h
    obtain ⟨x, h1, h⟩ := ob_ok h
    cases h
    subst hk
    exact w_fmt (T.e ok h1)
  · obtain ⟨x, h1, h⟩ := ob_ok h
    obtain ⟨hc, h⟩ := og_ok h
    cases h
    exact w_fld (T.e ok h1) (fun c hc => ok.flo c _ (fldCls_mem hc)) (base_no hc)
  · rename_i elt gs scope pos
    obtain ⟨q, h1, h⟩ := ob_ok h
    obtain ⟨it, Tt, tt, te⟩ := q
    cases h
    obtain ⟨tg, iter, ifs, own, e1, e2, e3, e4⟩ := T.lc ok h1
    subst e1
    split
    · exact w_lcM ok.calm ok.nd e2 e3 e4
    · exact w_lc ok.calm ok.nd e2 e3 e4
  · cases h
theorem trOk_le : ∀ n k, k ≤ n → TrOk k := by
  intro n
  induction n with
  | zero =>
    intro k hk
    have : k = 0 := by omega
    subst this
    exact trOk0
  | succ n ih =>
    intro k hk
    by_cases h : k ≤ n
    · exact ih k h
    · have : k = n + 1 := by omega
      subst this
      exact { e := fun ok _ _ h => step_e ih ok h, p := fun ok _ _ h => step_p ih ok h, j := fun ok _ _ h => step_j ih ok h, bv := fun ok _ _ _ h _ => step_bv ih ok h, cmp := fun ok _ _ _ _ h _ => step_cmp ih ok h, a := fun ok _ _ h => step_a ih ok h, call := fun ok _ _ _ h _ _ => step_call ih ok h, calls := fun ok _ _ _ _ h _ _ => step_calls ih ok h,
              lam := fun ok _ _ _ h _ _ _ => step_lam ih ok h, nest := fun ok _ _ _ _ hq h _ _ => step_nest ih ok hq h, meth := fun ok _ _ _ _ _ _ h => step_meth ih ok h, setd := fun ok _ _ _ _ _ _ _ h hb hl => step_setd ih ok h hb hl, t := fun ok _ _ h => step_t ih ok h, tb := fun ok _ _ _ h _ => step_tb ih ok h, i := fun ok _ _ h _ => step_i ih ok h, it := fun ok _ _ _ h => step_it ih ok h, lc := fun ok _ _ _ _ _ _ _ h => step_lc ih ok h }
theorem trOk (n : Nat) : TrOk n := trOk_le n n (Nat.le_refl n)
end
end FW

namespace FW
open PySem PySem.Spec L2
section
variable {X : Cx} {E : XK} {pos : Pos}
/-- behind it a token is out -/
def PEK (X : Cx) (e : Expr) (t : TE) : Prop := ∀ (pins : List (Addr × Obj)) (s : Shared) (σ : L2.St) (H : Hp) (Q : VK), Inv X pins σ H s → t σ H Q → wpAny (model X.prog X.w) X.A (eval e X.env) (fun v s1 => 1 ≤ s1.toks ∧ EP X pins σ Q v s1) X.xe s
def PAK (X : Cx) (es : List Expr) (t : TA) : Prop := ∀ (pos : Pos) (pins : List (Addr × Obj)) (s : Shared) (σ : L2.St) (H : Hp) (Q : List V → Hp → Prop), Inv X pins σ H s → t σ H Q → wpAny (model X.prog X.w) X.A (spliced (backTo pos (starEach es X.env))) (fun us s1 => 1 ≤ s1.toks ∧ AP X pins σ Q us s1) X.xe s
def PTK (X : Cx) (e : Expr) (t : TT) : Prop := ∀ (pins : List (Addr × Obj)) (s : Shared) (σ : L2.St) (H : Hp) (Q : Bool → Hp → Prop), Inv X pins σ H s → t σ H Q → wpAny (model X.prog X.w) X.A (isTrue e X.env (eval e X.env)) (fun b s1 => 1 ≤ s1.toks ∧ TP X pins σ Q b s1) X.xe s
def PTT (X : Cx) (e : Expr) (t : TT) : Prop := ∀ (pins : List (Addr × Obj)) (s : Shared) (σ : L2.St) (H : Hp) (Q : Bool → Hp → Prop), 1 ≤ s.toks → Inv X pins σ H s → t σ H Q → wpAny (model X.prog X.w) X.A (isTrue e X.env (eval e X.env)) (TP X pins σ Q) X.xe s
theorem tks {α : Type} {t : Sem α} {Q Q' : α → Shared → Prop} {M : Model} {A : Around} {Ex : Value → Shared → Prop} {s : Shared} (h0 : 1 ≤ s.toks) (h : wpAny M A t Q Ex s) (hQ : ∀ a s, 1 ≤ s.toks → Q a s → Q' a s) : wpAny M A t Q' Ex s :=
  wpAny_mono (PySem.wpAny_toks h) (fun a s1 q => hQ a s1 (Nat.le_trans h0 q.1) q.2) fun _ _ x => x.2
theorem pek_str {x : Str} {j} : PEK X (.Constant (.str x) j pos) (tM (gOf X) E (wC (.str x))) := fun pins s σ H Q I h => by
  obtain ⟨as, d, m, R, Z, sr, rs, h, ok, ex⟩ := h
  exact Calls.Constant_str ⟨by show 1 ≤ s.toks + 1; omega, .str x, H, I.tok _, ⟨_, rfl⟩, ok _ m _ H as (Fr.refl _ _) sr (.str x) h⟩
theorem pek_op {a b : Expr} {ta tb : WE} {op : Operator} {f : WO} (ho : OpW X (binaryOp op) f) (ha : PEK X a (tM (gOf X) E ta)) (hb : PE X b (tM (gOf X) E tb)) : PEK X (.BinOp a op b pos) (tM (gOf X) E (wOp f ta tb)) := fun pins s σ H Q I h => by
  have h := top_of h
  refine wpAny_BinOp (thn (ha pins s σ H _ I h) fun v s1 ⟨k1, x, H1, I1, r1, q1⟩ => ?_)
  refine tks k1 (hb.run pins s1 σ H1 _ I1 q1) fun u s2 k2 ⟨y, H2, I2, r2, q2⟩ => ?_
  exact tks k2 (ho pins s2 σ H2 x y v u Q I2 r1 r2 q2) fun _ _ k3 q => ⟨k3, q⟩
theorem pak_one {e : Expr} {te : WE} (hn : notStar e = true) (ha : PEK X e (tM (gOf X) E te)) : PAK X [e] (tMA (gOf X) E (wCons te wNil)) := fun pos pins s σ H Q I h => by
  obtain ⟨as, d, m, R, Z, sr, rs, h, ok, ex⟩ := h
  rw [starEach_plain hn]
  show wpAny _ _ (spliced ((false, eval e X.env) :: backTo pos (starEach [] X.env))) _ _ s
  refine Calls.spliced_cons (thn (ha pins s σ H (fun v H1 => ∃ as1 w m1, Fr as as1 H H1 ∧ SR (gOf X) as1 H1 m1 ∧ RelW (gOf X) as1 H1 w v ∧ R [w] m1) I ⟨as, d, m, _, Z, sr, rs, h, fun w m1 v H1 as1 f1 s1 r1 h1 => ⟨as1, w, m1, f1, s1, r1, h1⟩, ex⟩) fun u s1 ⟨k1, x, H1, I1, r1, as1, w, m1, f1, sr1, rw1, h1⟩ => ?_)
  refine Calls.spliced_nil ?_
  exact ⟨k1, [x], H1, I1, .cons r1 .nil, ok _ m1 _ H1 as1 f1 sr1 (.cons rw1 .nil) h1⟩
theorem pek_call {x : Str} {p : Pos} {e : Expr} {es : List Expr} {t : WA} {n k : Nat} {c : Con} (F : FnB X.prog X.w X.K X.mg X.base k x n c) (hr : Room k X.A) (hg : Gl X x) (hx : Passes (CX X.prog X.w) X E) (ha : PAK X (e :: es) (tMA (gOf X) E t))
    (hdb : (x == ("__debug__" : Str)) = false) (he : notStar e = true) (hes : es.all notStar = true) : PEK X (.Call (.Name x p) (e :: es) [] pos) (tM (gOf X) E (wCall n c t)) := fun pins s σ H Q I h => by
  obtain ⟨f, fd, ps, ds, dvs, dw, c0, F, hn, hm, hk, hb, hv, hw, hc⟩ := F
  obtain ⟨as, d, m, R, Z, sr, rs, h, ok, ex⟩ := h
  have h : tMA (gOf X) E t σ H (fun vs H1 => spW ⟨X.K, X.w, X.mg⟩ ps.length c0 (vs ++ dvs) H1 Q E) := by
    refine ⟨as, d, m, _, Z, sr, rs, h, fun ws m1 vs H1 as1 f1 s1 r1 h1 => ?_, ex⟩
    exact ⟨as1, ws ++ dw, m1, R, Z, s1, r1.append (hw _ _), by rw [List.length_append, h1.1, hn], hc _ _ _ _ h1.2, fun w2 m2 v2 H2 as2 f2 s2 r2 h2 => ok w2 m2 v2 H2 as2 (f1.trans f2) s2 r2 h2, ex.fr f1⟩
  refine wpAny_Call_Name_kw (ld_glob I hg hm ?_ hdb)
  refine PySem.W.callWith_K (h₀ := X.base) I.ok.mod.kin hk (thn (ha pos pins s σ H _ I h) fun us s1 ⟨k1, vs, H1, I1, r, q⟩ => ⟨I1.kIn, ?_⟩) (starEach_plain he) (starEach_any hes)
  exact tks k1 (run_fn F hr hb hv hx I1 r q) fun _ _ k3 q => ⟨k3, q⟩
theorem ptk_cmp {a b : Expr} {ta tb : WE} {op : CmpOp} {f : WO} (ho : OpW X (compareOp op) f) (ha : PEK X a (tM (gOf X) E ta)) (hb : PE X b (tM (gOf X) E tb)) (hm : behindInMarks op b = false) :
    PTK X (.Compare a [op] [b] pos) (tMT (gOf X) E (wTB (wOp f ta tb))) := fun pins s σ H Q I h => by
  have h : tTest (tOp (rW (gOf X) f) (tM (gOf X) E ta) (tM (gOf X) E tb)) σ H Q := tTest_of (fun _ _ _ h => top_of h) h
  refine wpAny_isTrue_Compare1 (thn (ha pins s σ H _ I h) fun v s1 ⟨k1, x, H1, I1, r1, q1⟩ => tks k1 (hb.run pins s1 σ H1 _ I1 q1) fun u s2 k2 ⟨y, H2, I2, r2, q2⟩ =>
    tks k2 (ho pins s2 σ H2 x y v u _ I2 r1 r2 q2) fun c s3 k3 ⟨z, H3, I3, r3, k, e, q3⟩ => ?_) hm
  subst e
  cases r3
  exact wpAny_truthy_bool ⟨k3, H3, I3, q3⟩
theorem repl_of {o : WE} {y z : Str} {σ : L2.St} {H : Hp} {Q : VK} (h : tM (gOf X) E (wRepl o y z) σ H Q) : CwR.tReplC (tM (gOf X) E o) y z σ H Q := by
  obtain ⟨as, d, m, R, Z, sr, rs, h, ok, ex⟩ := h
  refine ⟨as, d, m, _, Z, sr, rs, h, fun w m1 v H1 as1 f1 s1 r1 h1 => ?_, ex⟩
  split at h1
  · exact ⟨_, relStr r1, h1.1, ok _ m1 _ H1 as1 f1 s1 (.str _) h1.2⟩
  · exact h1.elim
theorem pet_repl {o : Expr} {to : WE} {y z : Str} {j k : Nat} {c0 c1 apos : Pos} (ho : PET X o (tM (gOf X) E to)) (hyz : (y == z) = false) (hbase : attributeBase o "replace" X.env (eval o X.env) = eval o X.env) (hline : (apos.endLine == pos.line) = true) :
    PET X (.Call (.Attribute o "replace" apos) [.Constant (.str y) j c0, .Constant (.str z) k c1] [] pos) (tM (gOf X) E (wRepl to y z)) :=
  fun pins s σ H Q h0 I h => CwR.pet_replT ho hyz rfl hbase hline pins s σ H Q h0 I (repl_of h)
theorem ptt_cmp {a b : Expr} {ta tb : WE} {op : CmpOp} {f : WO} (ho : OpW X (compareOp op) f) (ha : PET X a (tM (gOf X) E ta)) (hb : PET X b (tM (gOf X) E tb)) (hm : behindInMarks op b = false) :
    PTT X (.Compare a [op] [b] pos) (tMT (gOf X) E (wTB (wOp f ta tb))) := fun pins s σ H Q h0 I h => by
  have h : tTest (tOp (rW (gOf X) f) (tM (gOf X) E ta) (tM (gOf X) E tb)) σ H Q := tTest_of (fun _ _ _ h => top_of h) h
  refine wpAny_isTrue_Compare1 (tks h0 (ha pins s σ H _ h0 I h) fun v s1 k1 ⟨x, H1, I1, r1, q1⟩ => tks k1 (hb pins s1 σ H1 _ k1 I1 q1) fun u s2 k2 ⟨y, H2, I2, r2, q2⟩ =>
    thn (ho pins s2 σ H2 x y v u _ I2 r1 r2 q2) fun c s3 ⟨z, H3, I3, r3, k, e, q3⟩ => ?_) hm
  subst e
  cases r3
  exact wpAny_truthy_bool ⟨H3, I3, q3⟩
/-- if a or b: return e; then an if behind which a token is out -/
theorem s_tok2 {a b e c : Expr} {A : List Stmt} {ta tb tc : WT} {te : WE} {tA : WS} {pb pr pi pi2 : Pos} (ha : PT X a (tMT (gOf X) E ta)) (hb : PTK X b (tMT (gOf X) E tb)) (he : PE X e (tM (gOf X) E te)) (hc : PTT X c (tMT (gOf X) E tc)) (hA : PSs X A (tMS (gOf X) E tA)) :
    PSs X [.If (.BoolOp .Or [a, b] pb) [.Return (some e) pr] [] pi, .If c A [] pi2] (tMS (gOf X) E (sSeq (sIf (wTOr ta tb) (sRet te) sNext) (sIf tc tA sNext))) := by
  refine ⟨fun pins s σ H D I h => ?_⟩
  obtain ⟨as, d, m, T, sr, rs, h, lk⟩ := h
  -- the return
  have ret : ∀ (Q : Flow → Shared → Prop) (s1 : Shared) (H1 : Hp) (as1 : AS) (m1 : Sto), Inv X pins σ H1 s1 → Fr as as1 H H1 → SR (gOf X) as1 H1 m1 → te d m1 T.rt T.ex → (∀ v s', SP X pins D (.ret v) s' → Q (.ret v) s') → wpAny (model X.prog X.w) X.A (execs [.Return (some e) pr] X.env) Q X.xe s1 := by
    intro Q s1 H1 as1 m1 I1 f1 sr1 h1 hQ
    refine wpAny_execs_cons (thn ((s_ret (pos := pr) he).run pins s1 σ H1 { D with nx := fun _ _ => False, bk := fun _ _ => False, ct := fun _ _ => False } I1 ⟨as1, d, m1, { T with nx := fun _ _ => False, bk := fun _ _ => False, ct := fun _ _ => False }, sr1, rs.fr f1, h1, ⟨fun _ _ _ _ _ _ _ _ q => q.elim, (lk.fr f1).rt, fun _ _ _ _ _ _ _ _ q => q.elim, fun _ _ _ _ _ _ _ _ q => q.elim, (lk.fr f1).ex⟩⟩) fun f s2 q => ?_)
    cases f with
    | next => obtain ⟨_, _, _, q⟩ := q; exact q.elim
    | ret v => exact hQ v s2 q
    | brk => obtain ⟨_, _, _, q⟩ := q; exact q.elim
    | cont => obtain ⟨_, _, _, q⟩ := q; exact q.elim
  -- the second if
  have second : ∀ (s1 : Shared) (H1 : Hp) (as1 : AS) (m1 : Sto), 1 ≤ s1.toks → Inv X pins σ H1 s1 → Fr as as1 H H1 → SR (gOf X) as1 H1 m1 → sIf tc tA sNext T d m1 → wpAny (model X.prog X.w) X.A (execs [.If c A [] pi2] X.env) (SP X pins D) X.xe s1 := by
    intro s1 H1 as1 m1 k1 I1 f1 sr1 h1
    refine wpAny_execs_cons (wpAny_If (thn (hc pins s1 σ H1 (fun k H2 => ∃ as2 m2, Fr as as2 H H2 ∧ SR (gOf X) as2 H2 m2 ∧ (if k = true then tA T d m2 else T.nx d m2)) k1 I1 ⟨as1, d, m1, _, T.ex, sr1, rs.fr f1, h1, fun k m2 k' H2 as2 f2 s2 e h2 => ⟨as2, m2, f1.trans f2, s2, by subst e; exact h2⟩, (lk.fr f1).ex⟩) fun k s2 ⟨H2, I2, as2, m2, f2, sr2, h2⟩ => ?_))
    have fin : ∀ f s', SP X pins D f s' → (match f with | .next => wpAny (model X.prog X.w) X.A (execs [] X.env) (SP X pins D) X.xe s' | f => SP X pins D f s') := by
      intro f s' q
      cases f with
      | next => exact wpAny_execs_nil q
      | ret v => exact q
      | brk => exact q
      | cont => exact q
    cases k with
    | true =>
      show wpAny (model X.prog X.w) X.A (execs A X.env) _ X.xe s2
      exact thn (hA.run pins s2 σ H2 D I2 ⟨as2, d, m2, T, sr2, rs.fr f2, by simpa using h2, lk.fr f2⟩) fin
    | false =>
      show wpAny (model X.prog X.w) X.A (execs [] X.env) _ X.xe s2
      refine wpAny_execs_nil (fin .next s2 ⟨σ, H2, I2, lk.nx d m2 σ H2 as2 f2 sr2 (rs.fr f2) (by simpa using h2)⟩)
  have hret : ∀ (s1 : Shared) (H1 : Hp) (as1 : AS) (m1 : Sto), Inv X pins σ H1 s1 → Fr as as1 H H1 → SR (gOf X) as1 H1 m1 → te d m1 T.rt T.ex → wpAny (model X.prog X.w) X.A (execs [.Return (some e) pr] X.env) (fun f s' => match f with | .next => wpAny (model X.prog X.w) X.A (execs [.If c A [] pi2] X.env) (SP X pins D) X.xe s' | f => SP X pins D f s') X.xe s1 :=
    fun s1 H1 as1 m1 I1 f1 sr1 h1 => ret _ s1 H1 as1 m1 I1 f1 sr1 h1 fun v s' q => q
  refine wpAny_execs_cons (wpAny_If ?_)
  refine PyProof.Rows.isTrue_or (thn (ha.run pins s σ H (fun k H1 => ∃ as1 m1, Fr as as1 H H1 ∧ SR (gOf X) as1 H1 m1 ∧ (if k = true then te d m1 T.rt T.ex else tb d m1 (fun k m2 => if k = true then te d m2 T.rt T.ex else sIf tc tA sNext T d m2) T.ex)) I ⟨as, d, m, _, T.ex, sr, rs, h, fun k m1 k' H1 as1 f1 s1 e h1 => ⟨as1, m1, f1, s1, by subst e; cases k <;> exact h1⟩, lk.ex⟩) fun k s1 ⟨H1, I1, as1, m1, f1, sr1, h1⟩ => ?_)
  cases k with
  | true =>
    show wpAny (model X.prog X.w) X.A (execs [.Return (some e) pr] X.env) _ X.xe s1
    exact hret s1 H1 as1 m1 I1 f1 sr1 (by simpa using h1)
  | false =>
    refine PyProof.Rows.isTrue_or (thn (hb pins s1 σ H1 (fun k H2 => ∃ as2 m2, Fr as as2 H H2 ∧ SR (gOf X) as2 H2 m2 ∧ (if k = true then te d m2 T.rt T.ex else sIf tc tA sNext T d m2)) I1 ⟨as1, d, m1, _, T.ex, sr1, rs.fr f1, by simpa using h1, fun k m2 k' H2 as2 f2 s2 e h2 => ⟨as2, m2, f1.trans f2, s2, by subst e; exact h2⟩, (lk.fr f1).ex⟩) fun k s2 ⟨k2, H2, I2, as2, m2, f2, sr2, h2⟩ => ?_)
    cases k with
    | true =>
      show wpAny (model X.prog X.w) X.A (execs [.Return (some e) pr] X.env) _ X.xe s2
      exact hret s2 H2 as2 m2 I2 f2 sr2 (by simpa using h2)
    | false =>
      refine PyProof.Rows.isTrue_or_nil ?_
      show wpAny (model X.prog X.w) X.A (execs [] X.env) _ X.xe s2
      refine wpAny_execs_nil ?_
      exact second s2 H2 as2 m2 k2 I2 f2 sr2 (by simpa using h2)
def trRep (n : Nat) (c : Ctx) : Expr → Option WE
  | .Call (.Attribute (.Call (.Attribute o n1 ap1) [.Constant (.str y1) _ _, .Constant (.str z1) _ _] [] p1) n2 ap2) [.Constant (.str y2) _ _, .Constant (.str z2) _ _] [] p2 =>
    og (n1 = "replace" ∧ n2 = "replace" ∧ notCall0 o = true ∧ (y1 == z1) = false ∧ (y2 == z2) = false ∧ (ap1.endLine == p1.line) = true ∧ (ap2.endLine == p2.line) = true) (ob (trE n c o) fun to => some (wRepl (wRepl to y1 z1) y2 z2))
  | _ => none
theorem rep_ok {n : Nat} {c : Ctx} (T : TrOk n) (ok : CtxOk X E c) {e : Expr} {t : WE} (h : trRep n c e = some t) : PET X e (tM (gOf X) E t) := by
  unfold trRep at h
  split at h
  · obtain ⟨⟨h1, h2, h3, h4, h5, h6, h7⟩, h⟩ := og_ok h
    obtain ⟨to, h8, h⟩ := ob_ok h
    cases h
    subst h1 h2
    exact pet_repl (pet_repl (CwR.PET.of (T.e ok h8)) h4 (base_no h3) h6) h5 (base_no rfl) h7
  · cases h
def trTok (n : Nat) (c : Ctx) : List Stmt → Option (WS → WS)
  | [.If (.BoolOp .Or [a, .Compare (.Call (.Name f _) [.BinOp (.BinOp (.Constant (.str y) _ _) .Add e1 _) .Add e2 _] [] _) [.NotEq] [r] _] _) [.Return (some e3) _] [] _, .If (.Compare l [.NotEq] [q] _) _ [] _] =>
    ob (trRep n c l) fun tl => ob (trRep n c q) fun tq => ob (trT n c a) fun ta => ob (trE n c e1) fun t1 => ob (trE n c e2) fun t2 => ob (trE n c r) fun tr => ob (trE n c e3) fun t3 => ob (findN c.fns f 1) fun con =>
      og (plainName f = true ∧ isGlob c f = true ∧ notSet r = true ∧ notSet q = true) (some fun tA => sSeq (sIf (wTOr ta (wTB (wOp (oEq true) (wCall 1 con (wCons (wOp oAdd (wOp oAdd (wC (.str y)) t1) t2) wNil)) tr))) (sRet t3) sNext) (sIf (wTB (wOp (oEq true) tl tq)) tA sNext))
  | _ => none
def tokBody : List Stmt → List Stmt
  | [_, .If _ A _ _] => A
  | _ => []
theorem tok_ok {n : Nat} {c : Ctx} (T : TrOk n) (ok : CtxOk X E c) {sts : List Stmt} {k : WS → WS} {tA : WS} (h : trTok n c sts = some k) (hA : PSs X (tokBody sts) (tMS (gOf X) E tA)) : PSs X sts (tMS (gOf X) E (k tA)) := by
  unfold trTok at h
  split at h
  · obtain ⟨tl, h1, h⟩ := ob_ok h
    obtain ⟨tq, h2, h⟩ := ob_ok h
    obtain ⟨ta, h3, h⟩ := ob_ok h
    obtain ⟨t1, h4, h⟩ := ob_ok h
    obtain ⟨t2, h5, h⟩ := ob_ok h
    obtain ⟨tr, h6, h⟩ := ob_ok h
    obtain ⟨t3, h7, h⟩ := ob_ok h
    obtain ⟨con, h8, h⟩ := ob_ok h
    obtain ⟨⟨g1, g2, g3, g4⟩, h⟩ := og_ok h
    cases h
    obtain ⟨p1, p2, p3⟩ := plainName_ok g1
    obtain ⟨kk, hr, F⟩ := ok.fok _ _ con (findN_mem h8)
    have F := F X.base ok.gb
    have oq := cmpOf_ok (X := X) ok.hu (op := .NotEq) (f := oEq true) rfl
    exact s_tok2 (T.t ok h3) (ptk_cmp oq (pek_call F hr (ok.gl g2) ok.pass (pak_one rfl (pek_op opw_add (pek_op opw_add pek_str (T.e ok h4)) (T.e ok h5))) p1 rfl rfl) (T.e ok h6) (behind_no g3)) (T.e ok h7) (ptt_cmp oq (rep_ok T ok h1) (rep_ok T ok h2) (behind_no g4)) hA
  · cases h
end
end FW

namespace FW
open PySem PySem.Spec L2
/-- a, b(, c) = x, y(, z): stored from the right, if all names are plain locals -/
def allLocal (c : Ctx) : List Expr → Bool
  | [] => true
  | .Name x _ :: r => isLocal c x && allLocal c r
  | _ => false
def sameLine (l : Nat) : List Expr → Bool
  | [] => true
  | e :: r => decide (e.pos.line = l) && sameLine l r
def lineOf : List Expr → Nat
  | [] => 0
  | e :: _ => e.pos.line
def namesIn : List Expr → List Str
  | [] => []
  | .Name x _ :: r => x :: namesIn r
  | _ :: r => namesIn r
/-- how a pair of names is stored -/
def parOk (c : Ctx) (ts vs : List Expr) : Bool := allLocal c ts && sameLine (lineOf ts) ts && decide (namesIn ts).Nodup && vs.all notStar && !(vs.all (foldedForSure 8)) && !(vs.all (constantsAlone 8)) && decide (ts.length = vs.length)
def compOk (c : Ctx) (x : Str) (p : Pos) : Expr → Bool
  | .ListComp _ _ scope pos => !isLocal c x || ((p.line == pos.line) && !(scope.names.any fun (n, k) => n == x && (k == .local || k == .cell)))
  | _ => false
def tupElts : Expr → Option (List Expr)
  | .Tuple es _ _ => some es
  | _ => none
def raiseOf : Option Expr → Option Str
  | some (.Call (.Name x _) [.Constant (.str _) _ _] [] _) => some x
  | _ => none
/-- some target that is no plain local name -/
def anyOdd (c : Ctx) (ts : List Expr) : Bool := ts.any fun
  | .Name x _ => !(isLocal c x)
  | _ => true
mutual
def trG : Nat → Ctx → Expr → Option WG
  | 0, _, _ => none
  | n + 1, c, e => match e with
    | .Name x _ => ob (slotOf c.N x) fun i => og (isLoc c x = true) (some (gSet i))
    | .Tuple es _ _ => ob (trGs n c es) fun gs => some (gTupG gs)
    | .Subscript o i _ => ob (trE n c o) fun to => ob (trE n c i) fun ti => og (notSlice i = true) (some (gSub to ti))
    | .Attribute o f _ => ob (trE n c o) fun to => some (gFld (fldCls c.flds f) f to)
    | _ => none
def trGs : Nat → Ctx → List Expr → Option (List WG)
  | 0, _, _ => none
  | n + 1, c, es => match es with
    | [] => some []
    | e :: r => ob (trG n c e) fun g => ob (trGs n c r) fun gs => og (notStar e = true) (some (g :: gs))
end
/-- as for trS: targets of a row of values -/
def trPar (n : Nat) (c : Ctx) (ts vs : List Expr) : Option WS := if (anyOdd c ts || vs.all (foldedForSure 8)) = true then ob (trGs n c ts) fun gs => ob (trA n c vs) fun t => some (sAsg (wTup t) (gTupG gs))
  else ob (slotsOf c ts) fun l => ob (trA n c vs) fun t => og (parOk c ts vs = true ∧ (l.length = 2 ∨ l.length = 3)) (some (sPar (l.map (·.2)) t))
def trTg (n : Nat) (c : Ctx) (tg : Expr) : Option WG := match tgtOf c tg with
  | some q => some q.2.wg
  | none => trG n c tg
mutual
def trS : Nat → Ctx → Stmt → Option WS
  | 0, _, _ => none
  | n + 1, c, st => match st with
    | .Pass _ => some sNext
    | .Break _ => some sBreak
    | .Continue _ => some sCont
    | .Return none _ => some sRetN
    | .Return (some e) _ => ob (trE n c e) fun t => some (sRet t)
    | .Expr e _ => og (notComp e = true) (ob (trE n c e) fun t => some (sDrop t))
    | .If t a b _ => ob (trT n c t) fun tt => ob (trSs n c a) fun ta => ob (trSs n c b) fun tb => some (sIf tt ta tb)
    | .Assign [.Name x p] e _ => og (isLoc c x = true) (ob (slotOf c.N x) fun i => ob (trE n c e) fun t => og (notComp e = true ∨ compOk c x p e = true) (some (sAsg t (gSet i))))
    | .Assign [.Tuple ts _ _] e _ => (match tupElts e with
      | some vs => trPar n c ts vs
      | none => ob (slotsOf c ts) fun l => ob (trE n c e) fun t => og (notComp e = true) (some (sAsg t (gTupN (l.map (·.2))))))
    | .Assign [.Subscript o i _] e _ => ob (trE n c o) fun to => ob (trE n c i) fun ti => ob (trE n c e) fun t => og (notSlice i = true ∧ notComp e = true) (some (sAsg t (gSub to ti)))
    | .Assign [.Attribute o f _] e _ => ob (trE n c o) fun to => ob (trE n c e) fun t => og (notComp e = true) (some (sAsg t (gFld (fldCls c.flds f) f to)))
    | .For tg iter body [] _ => ob (trTg n c tg) fun q => ob (trIT n c tg iter) fun it => ob (trSs n c body) fun tb => og (notSet iter = true) (some (sFor it q tb))
    | .While t body [] _ => ob (trT n c t) fun tt => ob (trSs n c body) fun tb => some (sWhile tt tb)
    | .Raise e none _ => ob (raiseOf e) fun x => og (plainName x = true ∧ isGlob c x = true ∧ x ∈ c.xs) (some (sRaise x))
    | _ => none
def trSs : Nat → Ctx → List Stmt → Option WS
  | 0, _, _ => none
  | n + 1, c, sts => match trTok n c sts with
    | some k => ob (trSs n c (tokBody sts)) fun tA => some (k tA)
    | none => match sts with
    | [] => some sNext
    | s :: r => match r with
      | [] => some ((trS n c s).getD sNever)
      | _ :: _ => ob (trSs n c r) fun u => some (sSeq ((trS n c s).getD sNever) u)
end
theorem star_any {vs : List Expr} (h : vs.all notStar = true) : (vs.any fun | .Starred .. => true | _ => false) = false := by
  induction vs with
  | nil => rfl
  | cons e r ih =>
    rw [List.all_cons, Bool.and_eq_true] at h
    rw [List.any_cons, ih h.2]
    cases e <;> first | rfl | (have := h.1; cases this)
theorem block_fn {env : Env} (hk : env.scope.kind = .function) : env.blockKind = .function := by unfold Env.blockKind; rw [hk]; rfl
theorem swapped2 {x y : Str} {px py pt pt2 : Pos} {kt k2 : Nat} {a b : Expr} {env : Env} (hk : env.scope.kind = .function) (hx : env.scope.names.lookup x = some .local) (hy : env.scope.names.lookup y = some .local) (hl : py.line = px.line) (hne : x ≠ y)
    (hs : [a, b].all notStar = true) (hf : [a, b].all (foldedForSure 8) = false) (hc : [a, b].all (constantsAlone 8) = false) :
    swappedStores [.Tuple [.Name x px, .Name y py] kt pt] (.Tuple [a, b] k2 pt2) env = pure (some [x, y]) := by
  have kx : env.kindOf x = some .local := hx
  have ky : env.kindOf y = some .local := hy
  have e0 : (x == y) = false := beq_eq_false_iff_ne.mpr hne
  unfold swappedStores
  have hd : ([x, y] : List Str).eraseDups = [x, y] := by
    simp [List.eraseDups_cons, e0, hne, Ne.symm hne]
  simp only [star_any hs, hf, hc, block_fn hk, List.length_cons, List.length_nil, List.head?_cons, Option.map_some, Option.getD_some, Expr.pos, List.filterMap_cons, List.filterMap_nil, kx, ky, hl]
  simp only [List.all_cons, List.all_nil, Bool.and_true, Bool.and_eq_true] at hs
  simp [hd]
  intro h
  exfalso
  rcases h with h | h
  · cases a <;> first | (cases h; done) | (have := hs.1; cases this; done)
  · cases b <;> first | (cases h; done) | (have := hs.2; cases this; done)
theorem swapped3 {x y z : Str} {px py pz pt pt2 : Pos} {kt k2 : Nat} {a b d : Expr} {env : Env} (hk : env.scope.kind = .function) (hx : env.scope.names.lookup x = some .local) (hy : env.scope.names.lookup y = some .local) (hz : env.scope.names.lookup z = some .local)
    (hl : py.line = px.line) (hl2 : pz.line = px.line) (hne : x ≠ y) (hne2 : x ≠ z) (hne3 : y ≠ z)
    (hs : [a, b, d].all notStar = true) (hf : [a, b, d].all (foldedForSure 8) = false) (hc : [a, b, d].all (constantsAlone 8) = false) :
    swappedStores [.Tuple [.Name x px, .Name y py, .Name z pz] kt pt] (.Tuple [a, b, d] k2 pt2) env = pure (some [x, y, z]) := by
  have kx : env.kindOf x = some .local := hx
  have ky : env.kindOf y = some .local := hy
  have kz : env.kindOf z = some .local := hz
  unfold swappedStores
  have hd : ([x, y, z] : List Str).eraseDups = [x, y, z] := by
    simp [List.eraseDups_cons, hne, Ne.symm hne, hne2, Ne.symm hne2, hne3, Ne.symm hne3]
  simp only [hf, hc, block_fn hk, List.length_cons, List.length_nil, List.head?_cons, Option.map_some, Option.getD_some, Expr.pos, List.filterMap_cons, List.filterMap_nil, kx, ky, kz, hl, hl2]
  simp only [List.all_cons, List.all_nil, Bool.and_true, Bool.and_eq_true] at hs
  simp [hd]
  intro h
  exfalso
  rcases h with h | h | h
  · cases a <;> first | (cases h; done) | (have := hs.1; cases this; done)
  · cases b <;> first | (cases h; done) | (have := hs.2.1; cases this; done)
  · cases d <;> first | (cases h; done) | (have := hs.2.2; cases this; done)
theorem swapped_no {tg e : Expr} {env : Env} (h : tupElts e = none) : swappedStores [tg] e env = pure none := by
  unfold swappedStores
  cases e <;> first
    | (cases h; done)
    | (cases tg <;> rfl)
theorem fm_short {α β : Type} {f : α → Option β} : ∀ {l : List α}, (∃ a ∈ l, f a = none) → (l.filterMap f).length < l.length
  | [], ⟨a, h, _⟩ => by cases h
  | b :: r, ⟨a, h, e⟩ => by
    have hle := List.length_filterMap_le f r
    rw [List.filterMap_cons]
    rcases List.mem_cons.mp h with rfl | h
    · rw [e]; simp only [List.length_cons]; omega
    · have := fm_short ⟨a, h, e⟩
      cases f b <;> simp only [List.length_cons] <;> omega
theorem swapped_odd {X : Cx} {E : XK} {c : Ctx} (ok : CtxOk X E c) {ts vs : List Expr} {kt k2 : Nat} {pt pt2 : Pos} (h : anyOdd c ts = true) : swappedStores [.Tuple ts kt pt] (.Tuple vs k2 pt2) X.env = pure none := by
  obtain ⟨t, ht, e⟩ := List.any_eq_true.mp h
  unfold swappedStores
  simp only []
  split
  · rfl
  split
  · rfl
  split
  · rfl
  · rename_i h3
    exfalso
    apply h3
    rw [Bool.or_eq_true]
    left
    rw [bne_iff_ne]
    refine Nat.ne_of_lt (fm_short ⟨t, ht, ?_⟩)
    cases t with
    | Name x p =>
      have hk : (X.env.kindOf x == some .local) = false := by
        show (X.env.scope.names.lookup x == some .local) = false
        rw [ok.hsc]
        have e' : isLocal c x = false := by simpa using e
        unfold isLocal at e'
        cases q : c.sc.names.lookup x with
        | none => rfl
        | some k =>
          rw [q] at e'
          cases k <;> first | rfl | (simp at e')
      simp only [hk, Bool.false_and, Bool.false_eq_true, if_false]
    | _ => rfl
theorem swapped_odd2 {X : Cx} {E : XK} {c : Ctx} (ok : CtxOk X E c) {ts vs : List Expr} {kt k2 : Nat} {pt pt2 : Pos} (h : (anyOdd c ts || vs.all (foldedForSure 8)) = true) : swappedStores [.Tuple ts kt pt] (.Tuple vs k2 pt2) X.env = pure none := by
  rcases Bool.or_eq_true_iff.mp h with h | h
  · exact swapped_odd ok h
  · unfold swappedStores
    simp only [h]
    split
    · rfl
    split
    · rfl
    split
    · rfl
    · rfl
theorem swapped_sub {o i e : Expr} {p : Pos} {env : Env} : swappedStores [.Subscript o i p] e env = pure none := by
  unfold swappedStores
  cases e <;> rfl
theorem swapped_fld {o e : Expr} {f : Str} {p : Pos} {env : Env} : swappedStores [.Attribute o f p] e env = pure none := by
  unfold swappedStores
  cases e <;> rfl
theorem sw_fld {o e : Expr} {f : Str} {p : Pos} {l : Nat} {env : Env} (h : notComp e = true) : swapsWithSole [.Attribute o f p] e l env = pure false := by
  unfold swapsWithSole
  exact sw_no h
theorem sw_sub {o i e : Expr} {p : Pos} {l : Nat} {env : Env} (h : notComp e = true) : swapsWithSole [.Subscript o i p] e l env = pure false := by
  unfold swapsWithSole
  exact sw_no h

theorem allLocal_slots {c : Ctx} : ∀ {ts : List Expr} {l : List (Str × Nat)}, slotsOf c ts = some l → namesIn ts = l.map (·.1) ∧ ts.length = l.length
  | [], l, h => by cases h; exact ⟨rfl, rfl⟩
  | e :: r, l, h => by
    cases e with
    | Name x p =>
      simp only [slotsOf] at h
      cases h1 : slotOf c.N x with
      | none => simp [h1] at h
      | some i =>
        cases h2 : slotsOf c r with
        | none => simp [h1, h2] at h
        | some l2 =>
          simp only [h1, h2] at h
          split at h
          · cases h
            obtain ⟨k1, k2⟩ := allLocal_slots h2
            exact ⟨by simp [namesIn, k1], by simp [k2]⟩
          · cases h
    | _ => cases h
structure TsOk (n : Nat) : Prop where
  s : ∀ {X : Cx} {E : XK} {c : Ctx}, CtxOk X E c → ∀ {st : Stmt} {t : WS}, trS n c st = some t → PS X st (tMS (gOf X) E t)
  ss : ∀ {X : Cx} {E : XK} {c : Ctx}, CtxOk X E c → ∀ {sts : List Stmt} {t : WS}, trSs n c sts = some t → PSs X sts (tMS (gOf X) E t)
section
variable {n : Nat} {X : Cx} {E : XK} {c : Ctx}
/-- what is not read is promised nothing of -/
theorem getD_ok (ih : TsOk n) (ok : CtxOk X E c) {s : Stmt} : PS X s (tMS (gOf X) E ((trS n c s).getD sNever)) := by
  cases h : trS n c s with
  | none => exact s_never
  | some t => exact ih.s ok h
theorem step_ss (ih : TsOk n) (ok : CtxOk X E c) {sts : List Stmt} {t : WS} (h : trSs (n + 1) c sts = some t) : PSs X sts (tMS (gOf X) E t) := by
  unfold trSs at h
  cases hk : trTok n c sts with
  | some k =>
    rw [hk] at h
    obtain ⟨tA, h1, h⟩ := ob_ok h
    cases h
    exact tok_ok (trOk n) ok hk (ih.ss ok h1)
  | none =>
  rw [hk] at h
  simp only [] at h
  cases sts with
  | nil => cases h; exact s_nil
  | cons s r =>
    cases r with
    | nil => cases h; exact s_one (getD_ok ih ok)
    | cons s2 r2 =>
      obtain ⟨y, h2, h⟩ := ob_ok h
      cases h
      exact s_cons (getD_ok ih ok) (ih.ss ok h2)
theorem slotsOf_cons {x : Str} {p : Pos} {r : List Expr} {l : List (Str × Nat)} (h : slotsOf c (.Name x p :: r) = some l) : ∃ i l2, slotOf c.N x = some i ∧ slotsOf c r = some l2 ∧ l = (x, i) :: l2 := by
  simp only [slotsOf] at h
  cases h1 : slotOf c.N x with
  | none => simp [h1] at h
  | some i =>
    cases h2 : slotsOf c r with
    | none => simp [h1, h2] at h
    | some l2 =>
      simp only [h1, h2] at h
      split at h
      · cases h; exact ⟨i, l2, rfl, rfl, rfl⟩
      · cases h
theorem slots_ne {N : List Str} {x y : Str} {i j : Nat} (h1 : slotOf N x = some i) (h2 : slotOf N y = some j) (h : x ≠ y) : i ≠ j := fun e => by
  subst e
  have a := slotOf_ok h1
  have b := slotOf_ok h2
  rw [a] at b
  exact h (Option.some.inj b)
theorem trG_pair : ∀ k : Nat, (∀ j, j < k → TrOk j) → (∀ {X : Cx} {E : XK} {c : Ctx}, CtxOk X E c → ∀ {e : Expr} {g : WG}, trG k c e = some g → PG X e (tMG (gOf X) g)) ∧
    (∀ {X : Cx} {E : XK} {c : Ctx}, CtxOk X E c → ∀ {es : List Expr} {gs : List WG}, trGs k c es = some gs → PGs X es (tMGs (gOf X) gs) ∧ (assignEach es X.env).length = gs.length ∧ (assignEach es X.env).findIdx? (·.1) = none)
  | 0, _ => by refine ⟨?_, ?_⟩ <;> (intros; rename_i h; cases h)
  | k + 1, TT => by
    have T := TT k (Nat.lt_succ_self k)
    obtain ⟨i1, i2⟩ := trG_pair k fun j hj => TT j (by omega)
    refine ⟨fun {X E c} ok e g h => ?_, fun {X E c} ok es gs h => ?_⟩
    · unfold trG at h
      split at h
      · obtain ⟨i, h1, h⟩ := ob_ok h
        obtain ⟨hl, h⟩ := og_ok h
        cases h
        obtain ⟨j1, j2⟩ := ok.loc hl
        exact g_name ok.nd (by rw [ok.hN]; exact slotOf_ok h1) j1 j2
      · obtain ⟨gs, h1, h⟩ := ob_ok h
        cases h
        obtain ⟨k1, k2, k3⟩ := i2 ok h1
        exact g_tupG ok.calm k1 k2 k3
      · obtain ⟨to, h1, h⟩ := ob_ok h
        obtain ⟨ti, h2, h⟩ := ob_ok h
        obtain ⟨hh, h⟩ := og_ok h
        cases h
        exact g_sub (by have := ok.hu; omega) (T.e ok h1) (T.e ok h2) (asg_sub hh)
      · obtain ⟨to, h1, h⟩ := ob_ok h
        cases h
        exact g_fld (T.e ok h1) (fun c hc => ok.flo c _ (fldCls_mem hc))
      · cases h
    · unfold trGs at h
      split at h
      · cases h; exact ⟨pgsW_nil, rfl, rfl⟩
      · rename_i e r
        obtain ⟨g, h1, h⟩ := ob_ok h
        obtain ⟨gs', h2, h⟩ := ob_ok h
        obtain ⟨hh, h⟩ := og_ok h
        cases h
        obtain ⟨k1, k2, k3⟩ := i2 ok h2
        have ea : assignEach (e :: r) X.env = (false, assign e X.env) :: assignEach r X.env := by cases e <;> first | rfl | cases hh
        refine ⟨pgsW_cons (i1 ok h1) k1 (by rw [ea]; rfl), ?_, ?_⟩
        · rw [ea]; simp [k2]
        · rw [ea, List.findIdx?_cons, k3]; rfl
theorem trGs_ok {n : Nat} {X : Cx} {E : XK} {c : Ctx} (T : TrOk n) (ok : CtxOk X E c) {es : List Expr} {gs : List WG} (h : trGs n c es = some gs) : PGs X es (tMGs (gOf X) gs) ∧ (assignEach es X.env).length = gs.length ∧ (assignEach es X.env).findIdx? (·.1) = none := (trG_pair n fun j _ => trOk j).2 ok h
theorem trTg_ok {n : Nat} {X : Cx} {E : XK} {c : Ctx} (T : TrOk n) (ok : CtxOk X E c) {tg : Expr} {g : WG} (h : trTg n c tg = some g) : PG X tg (tMG (gOf X) g) := by
  unfold trTg at h
  cases q : tgtOf c tg with
  | some q' => rw [q] at h; cases h; exact (tgtOf_ok ok q).2.2
  | none => rw [q] at h; exact (trG_pair n fun j _ => trOk j).1 ok h
theorem step_par (ok : CtxOk X E c) {ts vs : List Expr} {l : List (Str × Nat)} {ta : WA} {kt k2 : Nat} {pt pt2 pos : Pos} (h1 : slotsOf c ts = some l) (hA : PA X vs (tMA (gOf X) E ta)) (hp : parOk c ts vs = true) (hl : l.length = 2 ∨ l.length = 3) :
    PS X (.Assign [.Tuple ts kt pt] (.Tuple vs k2 pt2) pos) (tMS (gOf X) E (sPar (l.map (·.2)) ta)) := by
  obtain ⟨hn, hlen⟩ := allLocal_slots h1
  unfold parOk at hp
  simp only [Bool.and_eq_true, decide_eq_true_eq, Bool.not_eq_true'] at hp
  obtain ⟨⟨⟨⟨⟨⟨p1, p2⟩, p3⟩, p4⟩, p5⟩, p6⟩, p7⟩ := hp
  rcases hl with hl | hl
  · match ts, vs, hlen, p7 with
    | [t1, t2], [a, b], hlen, p7 =>
      cases t1 with
      | Name x px =>
        obtain ⟨i, l2, q1, q2, rfl⟩ := slotsOf_cons h1
        cases t2 with
        | Name y py =>
          obtain ⟨j, l3, q3, q4, rfl⟩ := slotsOf_cons q2
          cases q4
          simp only [allLocal, Bool.and_eq_true, Bool.and_true] at p1
          have p3 : x ≠ y := by simpa [namesIn] using p3
          simp [sameLine, lineOf, Expr.pos] at p2
          have p2 : py.line = px.line := of_decide_eq_true p2
          have hx := ok.locl p1.1
          have hy := ok.locl p1.2
          exact s_par2 ok.calm ok.nd (by rw [ok.hN]; exact slotOf_ok q1) (by rw [ok.hN]; exact slotOf_ok q3) (slots_ne q1 q3 p3) hx hy hA (swapped2 ok.kf hx hy p2 p3 p4 p5 p6)
        | _ => cases q2
      | _ => cases h1
    | [], _, hlen, _ => simp at hlen; omega
    | [_], _, hlen, _ => simp at hlen; omega
    | _ :: _ :: _ :: _, _, hlen, _ => simp at hlen; omega
    | [_, _], [], _, p7 => simp at p7
    | [_, _], [_], _, p7 => simp at p7
    | [_, _], _ :: _ :: _ :: _, _, p7 => simp at p7
  · match ts, vs, hlen, p7 with
    | [t1, t2, t3], [a, b, d], hlen, p7 =>
      cases t1 with
      | Name x px =>
        obtain ⟨i, l2, q1, q2, rfl⟩ := slotsOf_cons h1
        cases t2 with
        | Name y py =>
          obtain ⟨j, l3, q3, q4, rfl⟩ := slotsOf_cons q2
          cases t3 with
          | Name z pz =>
            obtain ⟨k, l4, q5, q6, rfl⟩ := slotsOf_cons q4
            cases q6
            simp only [allLocal, Bool.and_eq_true, Bool.and_true] at p1
            have p3 : (x ≠ y ∧ x ≠ z) ∧ y ≠ z := by simpa [namesIn] using p3
            simp [sameLine, lineOf, Expr.pos] at p2
            have p2 : py.line = px.line ∧ pz.line = px.line := ⟨of_decide_eq_true p2.1, of_decide_eq_true p2.2⟩
            have hx := ok.locl p1.1
            have hy := ok.locl p1.2.1
            have hz := ok.locl p1.2.2
            exact s_par3 ok.calm ok.nd (by rw [ok.hN]; exact slotOf_ok q1) (by rw [ok.hN]; exact slotOf_ok q3) (by rw [ok.hN]; exact slotOf_ok q5) (slots_ne q1 q3 p3.1.1) (slots_ne q1 q5 p3.1.2) (slots_ne q3 q5 p3.2) hx hy hz hA
              (swapped3 ok.kf hx hy hz p2.1 p2.2 p3.1.1 p3.1.2 p3.2 p4 p5 p6)
          | _ => cases q4
        | _ => cases q2
      | _ => cases h1
    | [], _, hlen, _ => simp at hlen; omega
    | [_], _, hlen, _ => simp at hlen; omega
    | [_, _], _, hlen, _ => simp at hlen; omega
    | _ :: _ :: _ :: _ :: _, _, hlen, _ => simp at hlen; omega
    | [_, _, _], [], _, p7 => simp at p7
    | [_, _, _], [_], _, p7 => simp at p7
    | [_, _, _], [_, _], _, p7 => simp at p7
    | [_, _, _], _ :: _ :: _ :: _ :: _, _, p7 => simp at p7
theorem sw_cell {elt : Expr} {gs : List Comprehension} {scope : Scope} {pos p : Pos} {x : Str} {l : Nat} {env : Env} (h : env.scope.names.lookup x ≠ some .local) : swapsWith (.ListComp elt gs scope pos) (some (.Name x p)) l env = pure false := by
  have k : (env.kindOf x == some .local) = false := by
    show (env.scope.names.lookup x == some .local) = false
    cases q : env.scope.names.lookup x with
    | none => rfl
    | some k =>
      cases k <;> first | rfl | exact absurd q h
  unfold swapsWith
  simp only [k, Bool.and_false, Bool.false_and]
theorem step_setLc (ok : CtxOk X E c) {x : Str} {p pos spos : Pos} {i : Nat} {elt : Expr} {gs : List Comprehension} {scope : Scope} {t : WE} (hi : slotOf c.N x = some i) (hl : isLoc c x = true) (h : trE n c (.ListComp elt gs scope pos) = some t) (hc : compOk c x p (.ListComp elt gs scope pos) = true) :
    PS X (.Assign [.Name x p] (.ListComp elt gs scope pos) spos) (tMS (gOf X) E (sAsg t (gSet i))) := by
  have hN : X.N[i]? = some x := by rw [ok.hN]; exact slotOf_ok hi
  obtain ⟨l1, l2⟩ := ok.loc hl
  by_cases hL : isLocal c x = true
  · have hloc := ok.locl hL
    simp only [compOk, hL, Bool.not_true, Bool.false_or, Bool.and_eq_true, Bool.not_eq_true'] at hc
    cases n with
    | zero => cases h
    | succ n =>
      unfold trE at h
      obtain ⟨q, h1, h⟩ := ob_ok h
      obtain ⟨it, Tt, tt, te⟩ := q
      cases h
      obtain ⟨tg, iter, ifs, own, e1, e2, e3, e4⟩ := (trOk n).lc ok h1
      subst e1
      refine s_setLc ok.calm ok.nd hN hloc (sw_true ok.kf hloc hc.1 hc.2) e2 e3 e4 fun σ H Q hq => ?_
      simp only at hq
      split at hq
      · exact tLcM_of (iter := iter) hq
      · exact tLc_of (iter := iter) hq
  · refine s_set ok.nd hN l1 ((trOk n).e ok h) (sw_cell fun z => hL ?_) l2
    unfold isLocal
    rw [← ok.hsc, z]
theorem step_s (ih : TsOk n) (ok : CtxOk X E c) {st : Stmt} {t : WS} (h : trS (n + 1) c st = some t) : PS X st (tMS (gOf X) E t) := by
  have T := trOk n
  unfold trS at h
  split at h
  · cases h; exact s_pass
  · cases h; exact s_break
  · cases h; exact s_cont
  · cases h; exact s_retN
  · obtain ⟨x, h1, h⟩ := ob_ok h
    cases h
    exact s_ret (T.e ok h1)
  · obtain ⟨hc, h⟩ := og_ok h
    obtain ⟨x, h1, h⟩ := ob_ok h
    cases h
    exact s_drop (T.e ok h1) (sw_no hc)
  · obtain ⟨x, h1, h⟩ := ob_ok h
    obtain ⟨y, h2, h⟩ := ob_ok h
    obtain ⟨z, h3, h⟩ := ob_ok h
    cases h
    exact s_if (T.t ok h1) (ih.ss ok h2) (ih.ss ok h3)
  · rename_i x p e pos
    obtain ⟨hl, h⟩ := og_ok h
    obtain ⟨i, hi, h⟩ := ob_ok h
    obtain ⟨te, h1, h⟩ := ob_ok h
    obtain ⟨hc, h⟩ := og_ok h
    cases h
    obtain ⟨l1, l2⟩ := ok.loc hl
    rcases hc with hc | hc
    · exact s_set ok.nd (by rw [ok.hN]; exact slotOf_ok hi) l1 (T.e ok h1) (sw_no hc) l2
    · cases e with
      | ListComp elt gs scope pos2 => exact step_setLc ok hi hl h1 hc
      | _ => cases hc
  · rename_i ts kt pt e pos
    cases he : tupElts e with
    | some vs =>
      rw [he] at h
      replace h : trPar n c ts vs = some t := h
      unfold trPar at h
      split at h
      · rename_i hodd
        obtain ⟨gs, h1, h⟩ := ob_ok h
        obtain ⟨ta, h2, h⟩ := ob_ok h
        cases h
        cases e with
        | Tuple vs' k2 pt2 =>
          cases he
          obtain ⟨k1, k2', k3⟩ := trGs_ok T ok h1
          refine s_asg (w_tup (T.a ok h2)) (g_tupG ok.calm k1 k2' k3) ?_ (swapped_odd2 ok hodd) rfl
          unfold swapsWithSole
          exact sw_no rfl
        | _ => cases he
      obtain ⟨l, h1, h⟩ := ob_ok h
      obtain ⟨ta, h2, h⟩ := ob_ok h
      obtain ⟨hh, h⟩ := og_ok h
      cases h
      cases e with
      | Tuple vs' k2 pt2 =>
        cases he
        exact step_par ok h1 (T.a ok h2) hh.1 hh.2
      | _ => cases he
    | none =>
      rw [he] at h
      obtain ⟨l, h1, h⟩ := ob_ok h
      obtain ⟨te, h2, h⟩ := ob_ok h
      obtain ⟨hc, h⟩ := og_ok h
      cases h
      obtain ⟨k1, k2, k3⟩ := slotsOf_ok ok h1
      refine s_asg (T.e ok h2) (g_tup ok.calm k1 k2 k3) ?_ (swapped_no he) rfl
      unfold swapsWithSole
      exact sw_no hc
  · obtain ⟨to, h1, h⟩ := ob_ok h
    obtain ⟨ti, h2, h⟩ := ob_ok h
    obtain ⟨te, h3, h⟩ := ob_ok h
    obtain ⟨hh, h⟩ := og_ok h
    cases h
    exact s_asg (T.e ok h3) (g_sub (by have := ok.hu; omega) (T.e ok h1) (T.e ok h2) (asg_sub hh.1)) (sw_sub hh.2) swapped_sub rfl
  · obtain ⟨to, h1, h⟩ := ob_ok h
    obtain ⟨te, h3, h⟩ := ob_ok h
    obtain ⟨hh, h⟩ := og_ok h
    cases h
    exact s_asg (T.e ok h3) (g_fld (T.e ok h1) (fun c hc => ok.flo c _ (fldCls_mem hc))) (sw_fld hh) swapped_fld rfl
  · obtain ⟨q, h1, h⟩ := ob_ok h
    obtain ⟨it, h2, h⟩ := ob_ok h
    obtain ⟨tb, h3, h⟩ := ob_ok h
    obtain ⟨hs, h⟩ := og_ok h
    cases h
    exact s_for ok.po ok.calm (T.it ok h2) (trTg_ok T ok h1) (ih.ss ok h3) (fold_no hs)
  · obtain ⟨tt, h1, h⟩ := ob_ok h
    obtain ⟨tb, h2, h⟩ := ob_ok h
    cases h
    exact s_while ok.po (T.t ok h1) (ih.ss ok h2)
  · rename_i e pos
    obtain ⟨x, h1, h⟩ := ob_ok h
    obtain ⟨hh, h⟩ := og_ok h
    cases h
    unfold raiseOf at h1
    split at h1
    · cases h1
      obtain ⟨p1, p2, p3⟩ := plainName_ok hh.1
      exact s_raise ok.calm ok.tk (ok.xok _ hh.2.2) (ok.gl hh.2.1) p1
    · cases h1
  · cases h
theorem tsOk : ∀ n, TsOk n
  | 0 => ⟨fun _ _ _ h => (by cases h), fun _ _ _ h => (by cases h)⟩
  | n + 1 => ⟨fun ok _ _ h => step_s (tsOk n) ok h, fun ok _ _ h => step_ss (tsOk n) ok h⟩
end
end FW

namespace FW
open PySem PySem.Spec L2
/-- what the module's names stand for -/
structure GOk (P : Program) (w : World) (K : PySem.W.Frag) (mg : Str → Option Value) (cns : List (Str × W)) (bl xs : List Str) : Prop where
  cok : ∀ x a, (x, a) ∈ cns → ∃ u v, mg x = some u ∧ RelV v u ∧ ∀ as H, RelW ⟨K, w, mg⟩ as H a v
  bok : ∀ x, x ∈ bl → mg x = none
  xok : ∀ x, x ∈ xs → ∃ C, mg x = some (.ref C) ∧ PySem.W.excIn K C He.veBase "ValueError.__new__" = true ∧ PySem.W.keepIn K (.ref C) = true ∧ PySem.W.subIn K (.ref C) (.type "BaseException") = some true ∧ PySem.W.typeIn K (.ref C) = some (.type "type")
theorem FnB.mono {P : Program} {w : World} {K : PySem.W.Frag} {mg : Str → Option Value} {base : Heap} {j k : Nat} {x : Str} {n : Nat} {c : Con} (F : FnB P w K mg base j x n c) (h : j ≤ k) : FnB P w K mg base k x n c := by
  obtain ⟨f, fd, ps, ds, dvs, dw, c0, F, r⟩ := F
  exact ⟨f, fd, ps, ds, dvs, dw, c0, F.mono h, r⟩
theorem FnW.mono {P : Program} {w : World} {K : PySem.W.Frag} {mg : Str → Option Value} {j k : Nat} {x : Str} {n : Nat} {c : Con} (F : FnW P w K mg j x n c) (h : j ≤ k) : FnW P w K mg k x n c := fun base gb => (F base gb).mono h
theorem FnW.imp {P : Program} {w : World} {K : PySem.W.Frag} {mg : Str → Option Value} {k : Nat} {x : Str} {n : Nat} {c c' : Con} (F : FnW P w K mg k x n c) (h : ∀ ws m R Z, c' ws m R Z → c ws m R Z) : FnW P w K mg k x n c' := fun base gb => by
  obtain ⟨f, fd, ps, ds, dvs, dw, c0, F, h1, h2, h3, h4, h5, h6, h7⟩ := F base gb
  exact ⟨f, fd, ps, ds, dvs, dw, c0, F, h1, h2, h3, h4, h5, h6, fun ws m R Z q => h7 _ _ _ _ (h _ _ _ _ q)⟩
theorem HFn.mono {P : Program} {w : World} {K : PySem.W.Frag} {mg : Str → Option Value} {kl j k : Nat} {x : Str} {nl n : Nat} {C : W → Con → Con} (F : HFn P w K mg kl j x nl n C) (h : j ≤ k) : HFn P w K mg kl k x nl n C := by
  obtain ⟨f, fd, ps, ds, dvs, dw, h1, h2, h3, h4, h5, h6, h7⟩ := F
  refine ⟨f, fd, ps, ds, dvs, dw, h1, h2, h3, h4, h5, h6, fun base gb F con LF => ?_⟩
  obtain ⟨c0, q1, q2⟩ := h7 base gb F con LF
  exact ⟨c0, q1.mono h, q2⟩
theorem start_rel {g : GE} {as : AS} {H : Hp} {N : List Str} {ws : List W} {vs : List V} (r : RelWs g as H ws vs) : RelS g as H (L2.start N vs) (startW N ws) := by
  have hl := r.length
  refine ⟨by unfold L2.start startW; simp [hl], fun i w e => ?_⟩
  unfold startW at e
  by_cases hi : i < ws.length
  · rw [List.getElem?_append_left (by simpa using hi), List.getElem?_map] at e
    cases q : ws[i]? with
    | none => rw [q] at e; cases e
    | some w' =>
      rw [q] at e
      have e' : some (some w') = some (some w) := e
      cases e'
      obtain ⟨v, e2, rv⟩ := r.get q
      refine ⟨v, ?_, rv⟩
      unfold L2.start
      rw [List.getElem?_append_left (by simp; omega), List.getElem?_map, e2]
      rfl
  · rw [List.getElem?_append_right (by simpa using hi), List.getElem?_replicate] at e
    split at e <;> cases e
abbrev FnsOk (P : Program) (w : World) (K : PySem.W.Frag) (mg : Str → Option Value) (k : Nat) (fns : List (Str × Nat × Con)) : Prop := ∀ x n con, (x, n, con) ∈ fns → FnW P w K mg k x n con
/-- what is handed lambdas here -/
abbrev HfsOk (P : Program) (w : World) (K : PySem.W.Frag) (mg : Str → Option Value) (kl k : Nat) (hfs : List (Str × Nat × Nat × (W → Con → Con))) : Prop := ∀ x nl n C, (x, nl, n, C) ∈ hfs → HFn P w K mg (kl + 1) k x nl n C
structure Lc where
  hfs : List (Str × Nat × Nat × (W → Con → Con)) := []
  lfns : List (Str × Nat × Con) := []
  lams : List (Nat × Nat × W × Con) := []
  mkr : Bool := false
  mths : List (Str × Nat × Str × Con) := []
  mkc : List (Str × Nat × Con) := []
  flds : List (Str × Str) := []
  lmths : List (Str × Nat × Str × Con) := []
  lmkc : List (Str × Nat × Con) := []
/-- what of classes a def may lean on -/
structure CsOk (P : Program) (w : World) (K : PySem.W.Frag) (mg : Str → Option Value) (k kl : Nat) (l : Lc) : Prop where
  ms : ∀ m n x con, (m, n, x, con) ∈ l.mths → MtW P w K mg k x m n con
  ks : ∀ x n con, (x, n, con) ∈ l.mkc → MkW P w K mg k x n con
  fl : ∀ x f, (x, f) ∈ l.flds → FlOk ⟨K, w, mg⟩ x f
  lms : ∀ m n x con, (m, n, x, con) ∈ l.lmths → MtW P w K mg kl x m n con
  lks : ∀ x n con, (x, n, con) ∈ l.lmkc → MkW P w K mg kl x n con
theorem CsOk.no {P : Program} {w : World} {K : PySem.W.Frag} {mg : Str → Option Value} {k kl : Nat} {l : Lc} (h1 : l.mths = []) (h2 : l.mkc = []) (h3 : l.flds = []) (h4 : l.lmths = []) (h5 : l.lmkc = []) : CsOk P w K mg k kl l :=
  ⟨fun _ _ _ _ h => (by rw [h1] at h; cases h), fun _ _ _ h => (by rw [h2] at h; cases h), fun _ _ h => (by rw [h3] at h; cases h), fun _ _ _ _ h => (by rw [h4] at h; cases h), fun _ _ _ h => (by rw [h5] at h; cases h)⟩
def mkCtx (N : List Str) (st : Stmt) (fns : List (Str × Nat × Con)) (cns : List (Str × W)) (bl xs : List Str) (mu : List (Nat × Nat)) (l : Lc := {}) : Ctx := ⟨N, defScope st, fun _ => true, fns, cns, bl, xs, mu, l.hfs, l.lfns, l.lams, l.mkr, l.mths, l.mkc, l.flds, l.lmths, l.lmkc⟩
/-- the def x at f makes lambdas -/
structure MkOk (K : PySem.W.Frag) (x : Str) (f : Addr) : Prop where
  at_ : f = He.fAd K (x, none)
  mem : (x, He.cT K (x, none)) ∈ tabC K
  one : ∀ p ∈ tabT K, p.1 = (He.cT K (x, none)).2 → p.2 = lamQ x
theorem units65 {k : Nat} {A : Around} (r : Room k A) : A.units + 65 < cLine := by
  have := r.un
  omega
section
variable {P : Program} {w : World} {K : PySem.W.Frag} {mg : Str → Option Value} {base : Heap}
/-- THE RULE for a def -/
theorem fn_okw {x q : Str} {st : Stmt} {f : Addr} {fd : FuncData} {N ps : List Str} {dvs : List V} {k kl fuel : Nat} {c : Con} {fns : List (Str × Nat × Con)} {cns : List (Str × W)} {bl xs : List Str} {mu : List (Nat × Nat)} {l : Lc} {t : WS} (gb : GB K mg base)
    (F : FunD K x q (defArgs st) (defBody st) (defScope st) dvs [] f fd) (S : FnScope N ps (defScope st)) (G : GOk P w K mg cns bl xs) (Fs : FnsOk P w K mg k fns) (Ls : FnsOk P w K mg kl l.lfns) (Hs : HfsOk P w K mg kl k l.hfs)
    (La : ∀ i n F con, (i, n, F, con) ∈ l.lams → LamF P w K mg base k F n con) (hm : l.mkr = true → MkOk K x f ∧ q = x) (Cs : CsOk P w K mg k kl l)
    (tr : trSs fuel (mkCtx N st fns cns bl xs mu l) (defBody st) = some t)
    (body : ∀ ws m R Z, ws.length = ps.length → c ws m R Z → t (endW R Z) (startW N ws) m) : FnOk P w K mg base (CX P w) (k + 1) f fd ps (spW ⟨K, w, mg⟩ ps.length c) := by
  obtain ⟨oc, od, dV, kV, doc, pm, an, cdv, ct, osl, rfl, lk, hcd, _, _⟩ := F.ex
  refine fn_of lk hcd S (fun vs H Q E h => ?_) (fun A outer s H vs Q E hr h => ?_)
  · obtain ⟨as, ws, m, R, Z, sr, rs, hl, hc, ok, ex⟩ := h
    rw [← rs.length]; exact hl
  · obtain ⟨as, ws, m, R, Z, sr, rs, hl, hc, ok, ex⟩ := h
    have C : CtxOk (cxOf (CX P w) P w K mg base N q (defScope st) f cdv A outer s H E) E (mkCtx N st fns cns bl xs mu l) :=
      { nd := S.nd, hN := rfl, hsc := rfl, kf := S.kind, calm := rfl, gb := gb, fok := fun y n con hm => ⟨k, hr, Fs y n con hm⟩, hfo := ⟨kl, Ls, Cs.lms, Cs.lks, fun y nl n C hm => ⟨k, hr, Hs y nl n C hm⟩⟩, lok := fun i n F con hm => ⟨k, hr, La i n F con hm⟩,
        mko := fun h => by
          obtain ⟨M, rfl⟩ := hm h
          have h2 := He.codeIn_ref hcd
          obtain ⟨cc, rfl⟩ := h2
          have h3 : He.codeOf K (q, none) = cc := He.codeOf_eq (by rw [← M.at_]; exact lk) rfl
          refine ⟨fun _ => rfl, q, cc, (He.cT K (q, none)).2, ?_, rfl, rfl, M.one⟩
          have := M.mem
          rw [← h3]
          exact this,
        cok := G.cok, bok := G.bok, xok := fun y hy => ⟨G.xok y hy⟩, hu := units65 hr,
        tk := L2N.takes_of rfl rfl rfl rfl, po := PassesOwn.leaving, fnn := fun _ _ => rfl, mok := fun m n x con h => ⟨k, hr, Cs.ms m n x con h⟩, kok := fun x n con h => ⟨k, hr, Cs.ks x n con h⟩, flo := Cs.fl }
    refine ⟨_, (tsOk fuel).ss C tr, as, startW N ws, m, endW R Z, sr, start_rel rs, body ws m R Z hl hc, ?_⟩
    exact ⟨fun d m' σ H' as' f' s' r' q => ok _ m' _ H' as' f' s' .non q, ok, fun _ _ _ _ _ _ _ _ q => q.elim, fun _ _ _ _ _ _ _ _ q => q.elim, ex⟩
/-- .. by its name -/
theorem fn_w {x : Str} {st : Stmt} {f : Addr} {fd : FuncData} {N ps : List Str} {k fuel : Nat} {c : Con} {fns : List (Str × Nat × Con)} {cns : List (Str × W)} {bl xs : List Str} {mu : List (Nat × Nat)} {t : WS}
    (F : FunD K x x (defArgs st) (defBody st) (defScope st) [] [] f fd) (S : FnScope N ps (defScope st)) (hb : Binds K fd ps []) (hm : mg x = some (.ref f)) (G : GOk P w K mg cns bl xs) (Fs : FnsOk P w K mg k fns)
    (tr : trSs fuel (mkCtx N st fns cns bl xs mu) (defBody st) = some t)
    (body : ∀ ws m R Z, ws.length = ps.length → c ws m R Z → t (endW R Z) (startW N ws) m) : FnW P w K mg (k + 1) x ps.length c := fun base gb =>
  ⟨f, fd, ps, [], [], [], c, fn_okw (kl := 0) (l := {}) gb F S G Fs (fun _ _ _ h => by cases h) (fun _ _ _ _ h => by cases h) (fun _ _ _ _ h => by cases h) (fun h => by cases h) (CsOk.no rfl rfl rfl rfl rfl) tr body, rfl, hm, F.kp, hb, .nil, fun _ _ => .nil, fun ws m R Z h => by rw [List.append_nil]; exact h⟩
/-- .. that makes lambdas, or has defaults -/
theorem fn_wl {x : Str} {st : Stmt} {f : Addr} {fd : FuncData} {N ps : List Str} {dvs fvs : List V} {ds : List Value} {dw : List W} {k kl fuel n : Nat} {c c0 : Con} {fns : List (Str × Nat × Con)} {cns : List (Str × W)} {bl xs : List Str} {mu : List (Nat × Nat)} {l : Lc} {t : WS}
    (F : FunD K x x (defArgs st) (defBody st) (defScope st) dvs [] f fd) (S : FnScope N ps (defScope st)) (hb : Binds K fd ps ds) (hv : Vals fvs ds) (hw : ∀ as H, RelWs ⟨K, w, mg⟩ as H dw fvs) (hn : ps.length = n + dw.length) (hm : mg x = some (.ref f)) (G : GOk P w K mg cns bl xs) (Fs : FnsOk P w K mg k fns) (Ls : FnsOk P w K mg kl l.lfns) (Hs : HfsOk P w K mg kl k l.hfs)
    (hla : l.lams = []) (hmk : l.mkr = true → MkOk K x f) (Cs : CsOk P w K mg k kl l) (tr : trSs fuel (mkCtx N st fns cns bl xs mu l) (defBody st) = some t) (hc : ∀ ws m R Z, c ws m R Z → c0 (ws ++ dw) m R Z)
    (body : ∀ ws m R Z, ws.length = ps.length → c0 ws m R Z → t (endW R Z) (startW N ws) m) : FnW P w K mg (k + 1) x n c := fun base gb =>
  ⟨f, fd, ps, ds, fvs, dw, c0, fn_okw gb F S G Fs Ls Hs (fun _ _ _ _ h => by rw [hla] at h; cases h) (fun h => ⟨hmk h, rfl⟩) Cs tr body, hn, hm, F.kp, hb, hv, hw, hc⟩
/-- .. that is handed a lambda first -/
theorem fn_h {x : Str} {st : Stmt} {f : Addr} {fd : FuncData} {N ps : List Str} {dvs fvs : List V} {ds : List Value} {dw : List W} {k kl fuel n nl : Nat} {C : W → Con → Con} {C0 : W → Con → Con} {fns : List (Str × Nat × Con)} {cns : List (Str × W)} {bl xs : List Str} {mu : List (Nat × Nat)} {t : W → Con → WS}
    (F : FunD K x x (defArgs st) (defBody st) (defScope st) dvs [] f fd) (S : FnScope N ps (defScope st)) (hb : Binds K fd ps ds) (hv : Vals fvs ds) (hw : ∀ as H, RelWs ⟨K, w, mg⟩ as H dw fvs) (hn : ps.length = n + dw.length) (hm : mg x = some (.ref f)) (G : GOk P w K mg cns bl xs) (Fs : FnsOk P w K mg k fns) (hk : kl ≤ k)
    (tr : ∀ L con, trSs fuel (mkCtx N st fns cns bl xs mu { lams := [(0, nl, L, con)] }) (defBody st) = some (t L con)) (hc : ∀ L con ws m R Z, C L con ws m R Z → C0 L con (ws ++ dw) m R Z)
    (body : ∀ L con ws m R Z, ws.length = ps.length → C0 L con ws m R Z → t L con (endW R Z) (startW N ws) m) : HFn P w K mg kl (k + 1) x nl n C :=
  ⟨f, fd, ps, ds, fvs, dw, hn, hm, F.kp, hb, hv, hw, fun base gb L con LF => ⟨C0 L con, fn_okw (kl := 0) (l := { lams := [(0, nl, L, con)] }) gb F S G Fs (fun _ _ _ h => by cases h) (fun _ _ _ _ h => by cases h) (fun i n F' con' h => by
      rcases List.mem_cons.mp h with h | h
      · cases h
        obtain ⟨f0, c0, q0, vs0, ws0, fd0, ps0, e0, FO, r0⟩ := LF
        exact ⟨f0, c0, q0, vs0, ws0, fd0, ps0, e0, FO.mono hk, r0⟩
      · cases h) (fun h => by cases h) (CsOk.no rfl rfl rfl rfl rfl) (tr L con) (body L con), hc L con⟩⟩
theorem MtW.imp {P : Program} {w : World} {K : PySem.W.Frag} {mg : Str → Option Value} {k : Nat} {c m : Str} {n : Nat} {con con' : Con} (F : MtW P w K mg k c m n con) (h : ∀ ws m R Z, con' ws m R Z → con ws m R Z) : MtW P w K mg k c m n con' := by
  obtain ⟨C, f, h1, h2, h3, h4⟩ := F
  refine ⟨C, f, h1, h2, h3, fun base gb => ?_⟩
  obtain ⟨fd, ps, q1, q2, q3⟩ := h4 base gb
  exact ⟨fd, ps, q1, q2, q3.imp fun vs H Q E ⟨as, ws, m, R, Z, sr, rs, hl, hc, ok, ex⟩ => ⟨as, ws, m, R, Z, sr, rs, hl, h _ _ _ _ hc, ok, ex⟩⟩
/-- nothing is promised -/
theorem fn_no {x : Str} {st : Stmt} {f : Addr} {fd : FuncData} {N ps : List Str} {k : Nat} (F : FunD K x x (defArgs st) (defBody st) (defScope st) [] [] f fd) (S : FnScope N ps (defScope st)) (hb : Binds K fd ps []) (hm : mg x = some (.ref f)) :
    FnW P w K mg (k + 1) x ps.length (fun _ _ _ _ => False) := fun base gb =>
  ⟨f, fd, ps, [], [], [], fun _ _ _ _ => False, F.ok S (fun vs H Q E ⟨as, ws, m, R, Z, sr, rs, hl, hc, ok, ex⟩ => hc.elim) (fun cdv A outer s H vs Q E hr ⟨as, ws, m, R, Z, sr, rs, hl, hc, ok, ex⟩ => hc.elim), rfl, hm, F.kp, hb, .nil, fun _ _ => .nil, fun _ _ _ _ h => h⟩
end
/-- what the head tells of the makers' tables -/
def TabsAtH (K : PySem.W.Frag) (h : Heap) : Prop := ∀ p ∈ tabC K, h.get? p.2.2 = some { cls := .none, data := .fields #[] } ∧ K.lookup p.2.2 = none ∧ PySem.W.CodeHd h p.2.1 p.2.2
/-- a law: walk_ofE, what leaves a def by the world, with tables -/
theorem walk_ofEW {l : PySem.W.OpenLaw} {n k : Nat} {q : Program} {loose : List Str} {XP : (Str → Option Value) → Heap → Prop} {YP : World → Heap → Prop} {d : DefRec} {x : Str}
    (hn : l.most = some n) (hn2 : n ≤ sizeLine) (hdf : d.params.defaults = []) (hr : Room k callerA)
    (F : ∀ (w : World) (mg : Str → Option Value) (h : Heap), YP w h → h.Ns mainGlobals mg → 
      ∃ (K : PySem.W.Frag) (fd : FuncData), K.In h ∧ TabsAtH K h ∧ (∀ (s : Shared) (u : Value), BindsTo s fd ⟨[u], []⟩ [(x, u)]) ∧
        ∀ base : Heap, GB K mg base → ∀ fa, mg d.name = some (.ref fa) → FnOk l.prog w K mg base (CX l.prog w) k fa fd [x] (spW ⟨K, w, mg⟩ 1 (fun ws m R Z => ∃ ns : List Int, ns.length ≤ n ∧ (ws = [.fzl (ns.map W.int)] ∨ ws = [.lst (ns.map W.int)]) ∧ m = [] ∧ ∀ m', R (.bl true) m'))) :
    PySem.W.WalkO q loose XP YP l.row.toRowW d [] (fun f vs => PySem.call f vs) := by
  refine Att.attach_call hn hdf fun w s₀ s₁ mg mb fa o pm cd doc a vs ns G Y ho hd hcd hmg hobj hints hlen hg => ?_
  obtain ⟨K, fd, KX, hT, hb, hF⟩ := F w mg _ Y G.T.g
  have mem : ∀ p ∈ (tabC K).map (fun p => (p.2.1, p.2.2)), ∃ x, (x, p.1, p.2) ∈ tabC K := fun p hp => by
    obtain ⟨q, hq, rfl⟩ := List.mem_map.mp hp
    exact ⟨q.1, hq⟩
  refine LamX.law_callTs (cs := (tabC K).map fun p => (p.2.1, p.2.2)) KX G.T.g G.T.b G.T.builtins G.T.nolimit hg (fun p hp => let ⟨x, h⟩ := mem p hp; (hT _ h).1) (fun p hp => let ⟨x, h⟩ := mem p hp; (hT _ h).2.1) (fun p hp => let ⟨x, h⟩ := mem p hp; (hT _ h).2.2) G.T.bmain hobj hints (Nat.le_trans hlen hn2) hr
    (fun base h1 h2 h3 => hF base ⟨h1, h2, fun p hp => h3 _ (List.mem_map.mpr ⟨p, hp, rfl⟩)⟩ fa hmg) hb (fun H hO hS => ?_) fun H e s' z => ?_
  · have rel : ∀ as, (∀ a, a ∉ as) → ∃ ww, (ww = .fzl (ns.map W.int) ∨ ww = .lst (ns.map W.int)) ∧ RelW ⟨K, w, mg⟩ as H ww (.ref a) := fun as hno => by
      have ri : ∀ l : List Int, RelWs ⟨K, w, mg⟩ as H (l.map W.int) (l.map V.int) := fun l => by
        induction l with
        | nil => exact .nil
        | cons i r ih => exact .cons (.int i) ih
      rcases hS with (h | ⟨o, h⟩) | h
      · exact ⟨_, .inr rfl, .lst (hno _) h (ri ns)⟩
      · exact ⟨_, .inl rfl, .fzl (hno _) h (ri ns)⟩
      · exact ⟨_, .inl rfl, .fzlK h (ri ns)⟩
    have hno : ∀ a : Addr, a ∉ (⟨[], []⟩ : AS) := fun a z => by
      rcases z with z | z
      · cases z
      · cases z
    obtain ⟨ww, hw, rw'⟩ := rel ⟨[], []⟩ hno
    have tabs0 : LamX.Tabs (tabT K) H := fun p hp => by
      obtain ⟨q, hq, rfl⟩ := List.mem_map.mp hp
      exact LamX.TabS.nil (hO (q.2.1, q.2.2) (List.mem_map.mpr ⟨q, hq, rfl⟩))
    refine ⟨⟨[], []⟩, [ww], [], fun v _ => v = .bl true, fun _ _ => False, ⟨rfl, List.Pairwise.nil, fun _ _ _ e => by simp at e, fun b hb => (by cases hb), tabs0⟩, .cons rw' .nil, rfl, ⟨ns, hlen, ?_, rfl, fun _ => rfl⟩, fun v m' v' H' as' _ _ r e => ?_, XLk.no⟩
    · rcases hw with rfl | rfl
      · exact .inl rfl
      · exact .inr rfl
    · subst e; exact relBl r
  · obtain ⟨_, _, _, _, _, _, _, _, _, _, _, _, q⟩ := z
    exact q.elim
end FW

namespace FW
open PySem PySem.Spec L2
def entI (e : DictEntry) : Option (Str × Int) := match e.key, e.val with
  | .str x _, .int i _ => some (x, i)
  | _, _ => none
def tabI (K : PySem.W.Frag) (a : Addr) : Option (List (Option (Str × Int))) := match K.lookup a with
  | some ⟨_, _, .dict es _, _⟩ => some (es.toList.map entI)
  | _ => none
def tabB (K : PySem.W.Frag) (a : Addr) (kvs : List (Str × Int)) : Bool := decide (tabI K a = some (kvs.map some))
def kvW (kvs : List (Str × Int)) : List (Key × W) := kvs.map fun p => (.inr p.1, .int p.2)
theorem find_tab {z : Str} : ∀ {l : List DictEntry} {kvs : List (Str × Int)}, l.map entI = kvs.map some →
    (l.any fun e => e.refKey) = false ∧ ((l.find? (·.key.isStr z) = none ∧ valW (kvW kvs) (.inr z) = none) ∨ ∃ e i, l.find? (·.key.isStr z) = some e ∧ valW (kvW kvs) (.inr z) = some (.int i) ∧ RelV (.int i) e.val)
  | [], [], _ => ⟨rfl, .inl ⟨rfl, rfl⟩⟩
  | [], _ :: _, h => by cases h
  | _ :: _, [], h => by cases h
  | e :: r, (x, i) :: kvs, h => by
    have h1 : entI e :: r.map entI = some (x, i) :: kvs.map some := h
    injection h1 with h2 h3
    obtain ⟨ih1, ih2⟩ := find_tab (z := z) h3
    obtain ⟨hash, key, val⟩ := e
    unfold entI at h2
    cases key <;> first | (cases h2; done) | skip
    cases val <;> first | (cases h2; done) | skip
    cases h2
    refine ⟨by rw [List.any_cons, ih1]; rfl, ?_⟩
    by_cases hz : x = z
    · refine .inr ⟨_, i, List.find?_cons_of_pos (by simp [Value.isStr, hz]), ?_, ?_⟩
      · show (if (Sum.inr x : Key) = .inr z then _ else _) = _
        rw [if_pos (by rw [hz])]
      · exact ⟨_, rfl⟩
    · have e1 : valW (kvW ((x, i) :: kvs)) (.inr z) = valW (kvW kvs) (.inr z) := by
        show (if (Sum.inr x : Key) = .inr z then _ else _) = _
        rw [if_neg (fun q => hz (Sum.inr.inj q))]
        rfl
      rw [e1, List.find?_cons_of_neg (by simp [Value.isStr, hz])]
      exact ih2
theorem kd_of {g : GE} {a : Addr} {kvs : List (Str × Int)} (h1 : ∃ es n, KDict g.K g.w a es n) (h2 : tabB g.K a kvs = true) : KD g a (kvW kvs) := by
  refine ⟨h1, fun z => ?_⟩
  obtain ⟨es, n, D⟩ := h1
  have h3 : tabI g.K a = some (kvs.map some) := of_decide_eq_true h2
  unfold tabI at h3
  rw [D.at_] at h3
  obtain ⟨q1, q2⟩ := find_tab (z := z) (Option.some.inj h3)
  unfold PySem.W.nsIn
  rw [D.at_]
  rcases q2 with ⟨e1, e2⟩ | ⟨e, i, e1, e2, e3⟩
  · refine ⟨none, ?_, fun _ => e2, fun u q => by cases q⟩
    simp only [e1, q1]
    rfl
  · refine ⟨some e.val, ?_, fun q => (by cases q), fun u q => ⟨i, e2, ?_⟩⟩
    · simp only [e1]
    · cases q; exact e3
abbrev VTab : Type := Str × List (Str × Int)
def VTab.tab (v : VTab) : He.Tab := (fun K => He.ga K v.1, v.2.map (·.1))
/-- no table twice -/
def ndT : List (Addr × Str) → Bool
  | [] => true
  | p :: r => (r.all fun q => !decide (q.1 = p.1)) && ndT r
theorem ndT_ok : ∀ {l : List (Addr × Str)}, ndT l = true → ∀ p ∈ l, ∀ q ∈ l, p.1 = q.1 → p.2 = q.2
  | [], _, p, hp, _, _, _ => by cases hp
  | a :: r, h, p, hp, q, hq, e => by
    obtain ⟨h1, h2⟩ := Bool.and_eq_true_iff.mp (show ((r.all fun q => !decide (q.1 = a.1)) && ndT r) = true from h)
    have no : ∀ z ∈ r, z.1 ≠ a.1 := fun z hz e => by
      have := List.all_eq_true.mp h1 z hz
      simp [e] at this
    rcases List.mem_cons.mp hp with ep | hp'
    · rcases List.mem_cons.mp hq with eq | hq'
      · rw [ep, eq]
      · rw [ep] at e; exact absurd e.symm (no q hq')
    · rcases List.mem_cons.mp hq with eq | hq'
      · rw [eq] at e; exact absurd e (no p hp')
      · exact ndT_ok h2 p hp' q hq' e
/-- the makers that are there -/
def mksB (mks : List Str) (K : PySem.W.Frag) : Bool := (makers.all fun x => match PySem.W.nsIn K mainGlobals x with
  | some (some (.ref _)) => mks.contains x
  | _ => true) && (ndT (tabT K) && mks.all fun x => makers.contains x)
def clsAd (K : PySem.W.Frag) (c : Str) : Option Addr := match PySem.W.nsIn K mainGlobals c with
  | some (some (.ref D)) => some D
  | _ => none
def excOk (K : PySem.W.Frag) (D : Addr) : Bool := decide (PySem.W.findIn K (.ref D) "__getattribute__" = some (some (.builtin "BaseException.__getattribute__"))) && (decide (PySem.W.findIn K (.ref D) "__getattr__" = some none) && (decide (PySem.W.subIn K (.ref D) (.type "BaseException") = some true) &&
  (PySem.W.hasDictIn K D && (decide (PySem.W.findIn K (.ref D) "__class__" = some (some (.builtin "object.__class__"))) && (decide (PySem.W.specialIn K (.builtin "object.__class__") "__get__" = some (some (.builtin "getset_descriptor.__get__"))) && (decide (PySem.W.takesIn K (.builtin "object.__class__") = some true) && decide (PySem.W.mroIn K D (.type "object") = some true)))))))
def excOne (K : PySem.W.Frag) (F : Addr) (cls : Str) (D : Addr) : Bool := excOk K D && ((wordCls.all fun c => match clsAd K c with
  | some a => decide (PySem.W.kitOne K (.ref D) (.ref a) = some (decide (c = cls)))
  | none => false) && (decide (PySem.W.kitOne K (.ref D) (.type "ValueError") = some true) && decide (PySem.W.exmOne K (.ref D) (.ref F) = some true)))
def excB (K : PySem.W.Frag) : Bool := match clsAd K "FormError" with
  | none => true
  | some F => if (wordCls.all fun c => (clsAd K c).isSome) = true then (wordCls.all fun cls => match clsAd K cls with
    | some D => excOne K F cls D
    | none => false) else true
def exV (vs : List VTab) (mks : List Str) (K : PySem.W.Frag) : Bool := (vs.all fun v => tabB K (He.ga K v.1) v.2) && (mksB mks K && excB K)
def dfn (mks : List Str) : List He.Defn := mks.map fun x => (x, none)
abbrev hookV (n : Nat) (fa : List He.Fa) (fn : List He.DefD) (vs : List VTab) (mks : List Str) : PySem.W.Hook := He.hookX n fa fn (vs.map VTab.tab) (dfn mks) (exV vs mks)
abbrev AlV : Type := He.AlX
abbrev obsVG (n : Nat) (fa : List He.Fa) (fn : List He.DefD) (vs : List VTab) (mks : List Str) (g : Addr → Option Obj) : AlV := He.obsX n fa fn (vs.map VTab.tab) (dfn mks) (exV vs mks) g
abbrev SaysV (fa : List He.Fa) (fn : List He.DefD) (vs : List VTab) (mks : List Str) (w : World) (h : Heap) (K : PySem.W.Frag) : Prop := He.SaysX fa fn (vs.map VTab.tab) (dfn mks) (exV vs mks) w h K
theorem obsVG_eq {n : Nat} {fa : List He.Fa} {fn : List He.DefD} {vs : List VTab} {mks : List Str} {g : Addr → Option Obj} {s : Shared} (h : ∀ a, g a = s.heap.get? a) : obsVG n fa fn vs mks g = (hookV n fa fn vs mks).obs s := He.obsX_eq h
section
variable {fa : List He.Fa} {fn : List He.DefD} {vs : List VTab} {mks : List Str} {w : World} {h : Heap} {K : PySem.W.Frag}
theorem sv_d (c : SaysV fa fn vs mks w h K) : He.SaysD fa fn K := c.t.d
theorem sv_kd (c : SaysV fa fn vs mks w h K) {mg : Str → Option Value} (i : Nat) {v : VTab} (h : vs[i]? = some v := by rfl) : KD ⟨K, w, mg⟩ (He.ga K v.1) (kvW v.2) := by
  refine kd_of (g := ⟨K, w, mg⟩) ?_ ?_
  · have := c.t.tab i (t := v.tab) (by rw [List.getElem?_map, h]; rfl)
    exact this
  · have c2 : exV vs mks K = true := c.more
    unfold exV at c2
    rw [Bool.and_eq_true] at c2
    exact List.all_eq_true.mp c2.1 v (List.mem_of_getElem? h)
theorem sv_mks (c : SaysV fa fn vs mks w h K) : mksB mks K = true := by
  have c2 : exV vs mks K = true := c.more
  unfold exV at c2
  rw [Bool.and_eq_true, Bool.and_eq_true] at c2
  exact c2.2.1
theorem tabC_mem {p : Str × Addr × Addr} (hp : p ∈ tabC K) : p.1 ∈ makers ∧ p.2 = He.cT K (p.1, none) ∧ ∃ r, PySem.W.nsIn K mainGlobals p.1 = some (some (.ref r)) := by
  unfold tabC at hp
  obtain ⟨x, h1, h2⟩ := List.mem_filterMap.mp hp
  split at h2
  · rename_i r hr
    cases h2
    exact ⟨h1, rfl, r, hr⟩
  · cases h2
theorem sv_tabs (c : SaysV fa fn vs mks w h K) (X : K.In h) : TabsAtH K h := fun p hp => by
  obtain ⟨h1, h2, r, h3⟩ := tabC_mem hp
  have hm := sv_mks c
  unfold mksB at hm
  rw [Bool.and_eq_true] at hm
  have h4 := List.all_eq_true.mp hm.1 p.1 h1
  rw [h3] at h4
  have h5 : p.1 ∈ mks := by simpa using h4
  have h6 : ((p.1, none) : He.Defn) ∈ dfn mks := List.mem_map.mpr ⟨p.1, h5, rfl⟩
  rw [h2]
  exact ⟨c.empty _ h6, c.out _ h6, PySem.W.codeHd_of_K X (c.hd _ h6)⟩
/-- a maker -/
theorem sv_mk (c : SaysV fa fn vs mks w h K) {x : Str} (hx : mks.contains x = true) (hg : (He.Fa.glo x).ok K = true) : MkOk K x (He.fAd K (x, none)) := by
  have hm := sv_mks c
  unfold mksB at hm
  rw [Bool.and_eq_true, Bool.and_eq_true] at hm
  have hxm : x ∈ makers := by
    have := List.all_eq_true.mp hm.2.2 x (by simpa using hx)
    simpa using this
  have hn : PySem.W.nsIn K mainGlobals x = some (some (.ref (He.ga K x))) := He.eqO_ok hg
  have mem : (x, He.cT K (x, none)) ∈ tabC K := by
    unfold tabC
    refine List.mem_filterMap.mpr ⟨x, hxm, ?_⟩
    rw [hn]
  refine ⟨rfl, mem, fun p hp e => ?_⟩
  exact ndT_ok hm.2.1 p hp _ (List.mem_map.mpr ⟨_, mem, rfl⟩) e
end
section
variable {P : Program} {w : World} {K : PySem.W.Frag} {mg : Str → Option Value}
theorem MsOk.nil {k : Nat} : ∀ m n x con, (m, n, x, con) ∈ ([] : List (Str × Nat × Str × Con)) → MtW P w K mg k x m n con := fun _ _ _ _ h => by cases h
theorem MsOk.cons {k : Nat} {m x : Str} {n : Nat} {con : Con} {l : List (Str × Nat × Str × Con)} (h : MtW P w K mg k x m n con) (t : ∀ m n x con, (m, n, x, con) ∈ l → MtW P w K mg k x m n con) : ∀ m' n' x' con', (m', n', x', con') ∈ (m, n, x, con) :: l → MtW P w K mg k x' m' n' con' := fun _ _ _ _ hm => by
  rcases List.mem_cons.mp hm with e | hm
  · cases e; exact h
  · exact t _ _ _ _ hm
theorem KsOk.nil {k : Nat} : ∀ x n con, (x, n, con) ∈ ([] : List (Str × Nat × Con)) → MkW P w K mg k x n con := fun _ _ _ h => by cases h
theorem KsOk.cons {k : Nat} {x : Str} {n : Nat} {con : Con} {l : List (Str × Nat × Con)} (h : MkW P w K mg k x n con) (t : ∀ x n con, (x, n, con) ∈ l → MkW P w K mg k x n con) : ∀ x' n' con', (x', n', con') ∈ (x, n, con) :: l → MkW P w K mg k x' n' con' := fun _ _ _ hm => by
  rcases List.mem_cons.mp hm with e | hm
  · cases e; exact h
  · exact t _ _ _ hm
theorem FnsOk.nil {k : Nat} : FnsOk P w K mg k [] := fun _ _ _ h => by cases h
theorem FnsOk.cons {k : Nat} {x : Str} {n : Nat} {c : Con} {l : List (Str × Nat × Con)} (h : FnW P w K mg k x n c) (t : FnsOk P w K mg k l) : FnsOk P w K mg k ((x, n, c) :: l) := fun y n' c' hm => by
  rcases List.mem_cons.mp hm with e | hm
  · cases e; exact h
  · exact t y n' c' hm
theorem HfsOk.nil {kl k : Nat} : HfsOk P w K mg kl k [] := fun _ _ _ _ h => by cases h
theorem HfsOk.cons {kl k : Nat} {x : Str} {nl n : Nat} {C : W → Con → Con} {l : List (Str × Nat × Nat × (W → Con → Con))} (h : HFn P w K mg (kl + 1) k x nl n C) (t : HfsOk P w K mg kl k l) : HfsOk P w K mg kl k ((x, nl, n, C) :: l) := fun y nl' n' c' hm => by
  rcases List.mem_cons.mp hm with e | hm
  · cases e; exact h
  · exact t y nl' n' c' hm
theorem cok_str {x z : Str} (h : ∃ t, mg x = some (.str z t)) : ∃ u v, mg x = some u ∧ RelV v u ∧ ∀ as H, RelW ⟨K, w, mg⟩ as H (.str z) v := by
  obtain ⟨t, e⟩ := h
  exact ⟨_, .str z, e, ⟨_, rfl⟩, fun _ _ => .str z⟩
theorem cok_int {x : Str} {i : Int} (h : ∃ t, mg x = some (.int i t)) : ∃ u v, mg x = some u ∧ RelV v u ∧ ∀ as H, RelW ⟨K, w, mg⟩ as H (.int i) v := by
  obtain ⟨t, e⟩ := h
  exact ⟨_, .int i, e, ⟨_, rfl⟩, fun _ _ => .int i⟩
theorem cok_dct {x : Str} {a : Addr} {kvs : List (Key × W)} (h : mg x = some (.ref a)) (k : KD ⟨K, w, mg⟩ a kvs) : ∃ u v, mg x = some u ∧ RelV v u ∧ ∀ as H, RelW ⟨K, w, mg⟩ as H (.dct kvs) v :=
  ⟨_, .ref a, h, rfl, fun _ _ => .dctK k⟩
theorem xok_of {h : Heap} {x : Str} (X : K.In h) (G : h.Ns mainGlobals mg) (c1 : (He.Fa.glo x).ok K = true) (c2 : (He.Fa.exc x).ok K = true) :
    ∃ C, mg x = some (.ref C) ∧ PySem.W.excIn K C He.veBase "ValueError.__new__" = true ∧ PySem.W.keepIn K (.ref C) = true ∧ PySem.W.subIn K (.ref C) (.type "BaseException") = some true ∧ PySem.W.typeIn K (.ref C) = some (.type "type") := by
  obtain ⟨h1, h2, h3, h4⟩ := He.exc_ok c2
  exact ⟨_, He.glo_ok X G c1, h1, h2, h3, h4⟩
end
end FW

namespace FW
open PySem PySem.Spec L2
def dLOOKS : W := .dct [(.inr "all", .int 1000000), (.inr "last1", .int 9), (.inr "last2", .int 99), (.inr "last3", .int 999)]
def dTURNS : W := .dct [(.inr "all", .int 1), (.inr "last1", .int 10), (.inr "last2", .int 100), (.inr "last3", .int 1000)]
def N_is_number : List Str := ["thing", "low", "high"]
/-- is_number -/
def t_is_number : WS := (sRet (wAnd (wUn (oIsi "int") (wVar 0)) (wAnd (wNot (wUn (oIsi "bool") (wVar 0))) (wChain oLe oLe (wVar 1) (wVar 0) (wVar 2)))))
def N_need_number : List Str := ["thing"]
/-- need_number -/
def t_need_number (c_is_number : Con) : WS := (sIf (wTNot (wTru (wCall 3 c_is_number (wCons (wVar 0) (wCons (wC (.int 0)) (wCons (wC (.int (10 ^ 15))) wNil)))))) (sRaise "BadNumber") sNext)
def N_are_ranges : List Str := ["thing", "most", "ahead", "one"]
/-- are_ranges -/
def t_are_ranges (c_is_number : Con) : WS := (sSeq (sIf (wTOr (wTNot (wTru (wUn (oIsi "tuple") (wVar 0)))) (wTNot (wTB (wChain oLe oLe (wC (.int 1)) (wCB fLen (wCons (wVar 0) wNil)) (wC (.int 6)))))) (sRet (wC (.bl false))) sNext)
    (sSeq (sAsg (wUn oNeg (wC (.int 1))) (gSet 2))
    (sSeq (sFor (wIt (wVar 0)) (Tgt.nm 3).wg (sSeq (sIf (wTOr (wTNot (wTru (wUn (oIsi "tuple") (wVar 3)))) (wTB (wOp (oEq true) (wCB fLen (wCons (wVar 3) wNil)) (wC (.int 2))))) (sRet (wC (.bl false))) sNext)
    (sSeq (sIf (wTOr (wTNot (wTru (wCall 3 c_is_number (wCons (wOp oIx (wVar 3) (wC (.int 0))) (wCons (wOp oAdd (wVar 2) (wC (.int 1))) (wCons (wVar 1) wNil)))))) (wTNot (wTru (wCall 3 c_is_number (wCons (wOp oIx (wVar 3) (wC (.int 1))) (wCons (wOp oIx (wVar 3) (wC (.int 0))) (wCons (wVar 1) wNil))))))) (sRet (wC (.bl false))) sNext)
    (sAsg (wOp oIx (wVar 3) (wC (.int 1))) (gSet 2)))))
    (sRet (wC (.bl true))))))
def N_parts_of : List Str := ["thing", "deep", "good", "rows", "part"]
/-- parts_of -/
def t_parts_of (c_parts_of c_are_ranges : Con) : WS := (sSeq (sIf (wTOr (wTB (wOp (oEq false) (wVar 1) (wC (.int 0)))) (wTOr (wTNot (wTru (wUn (oIsi "tuple") (wVar 0)))) (wTOr (wTB (wOp oLt (wCB fLen (wCons (wVar 0) wNil)) (wC (.int 2)))) (wTNot (wTru (wUn (oIsi "str") (wOp oIx (wVar 0) (wC (.int 0))))))))) (sRet (wC (.int 0))) sNext)
    (sSeq (sIf (wTB (wOp (oEq false) (wOp oIx (wVar 0) (wC (.int 0))) (wC (.str "in")))) (sSeq (sAsg (wAnd (wOp (oEq false) (wCB fLen (wCons (wVar 0) wNil)) (wC (.int 3))) (wAnd (wUn (oIsi "str") (wOp oIx (wVar 0) (wC (.int 1)))) (wOp (oIn false) (wOp oIx (wVar 0) (wC (.int 1))) (wC dLOOKS)))) (gSet 2))
    (sRet (wCB fInt (wCons (wAnd (wVar 2) (wCall 2 c_are_ranges (wCons (wOp oIx (wVar 0) (wC (.int 2))) (wCons (wOp oIx (wC dLOOKS) (wOp oIx (wVar 0) (wC (.int 1)))) wNil)))) wNil)))) sNext)
    (sSeq (sAsg (wOr (wAnd (wOp (oIn false) (wOp oIx (wVar 0) (wC (.int 0))) (wTup (wCons (wC (.str "and")) (wCons (wC (.str "or")) wNil)))) (wChain oLe oLe (wC (.int 3)) (wCB fLen (wCons (wVar 0) wNil)) (wC (.int 7)))) (wAnd (wOp (oEq false) (wOp oIx (wVar 0) (wC (.int 0))) (wC (.str "not"))) (wOp (oEq false) (wCB fLen (wCons (wVar 0) wNil)) (wC (.int 2))))) (gSet 2))
    (sSeq (sAsg (wIf (wTru (wVar 2)) (wLc (wIt (wSl (wVar 0) (wP (wC (.int 1))) wNoP)) (.nm 4) wYes (wCall 2 c_parts_of (wCons (wVar 4) (wCons (wOp oSub (wVar 1) (wC (.int 1))) wNil)))) (wLst (wCons (wC (.int 0)) wNil))) (gSet 3))
    (sRet (wIf (wTB (wOp (oIn true) (wC (.int 0)) (wVar 3))) (wOp oAdd (wC (.int 1)) (wCB fSum (wCons (wVar 3) wNil))) (wC (.int 0))))))))
def N_is_condition : List Str := ["thing"]
/-- is_condition -/
def t_is_condition (c_parts_of : Con) : WS := (sRet (wChain oLe oLe (wC (.int 1)) (wCall 2 c_parts_of (wCons (wVar 0) (wCons (wC (.int 6)) wNil))) (wC (.int 60))))
def N_last_of : List Str := ["number", "turn"]
/-- last_of -/
def t_last_of : WS := (sRet (wOp oSub (wVar 0) (wOp oMul (wOp oDiv (wVar 0) (wVar 1)) (wVar 1))))
def N_fits : List Str := ["condition", "number", "word", "rows", "found", "part", "low", "high"]
/-- fits -/
def t_fits (c_fits c_last_of : Con) : WS := (sSeq (sAsg (wOp oIx (wVar 0) (wC (.int 0))) (gSet 2))
    (sSeq (sIf (wTB (wOp (oEq false) (wVar 2) (wC (.str "in")))) (sSeq (sAsg (wIf (wTB (wOp (oEq false) (wOp oIx (wVar 0) (wC (.int 1))) (wC (.str "all")))) (wVar 1) (wCall 2 c_last_of (wCons (wVar 1) (wCons (wOp oIx (wC dTURNS) (wOp oIx (wVar 0) (wC (.int 1)))) wNil)))) (gSet 4))
    (sRet (wCB fAny (wCons (wLc (wIt (wOp oIx (wVar 0) (wC (.int 2)))) (.tp [6, 7]) wYes (wChain oLe oLe (wVar 6) (wVar 4) (wVar 7))) wNil)))) sNext)
    (sSeq (sIf (wTB (wOp (oEq false) (wVar 2) (wC (.str "not")))) (sRet (wNot (wCall 2 c_fits (wCons (wOp oIx (wVar 0) (wC (.int 1))) (wCons (wVar 1) wNil))))) sNext)
    (sSeq (sAsg (wLc (wIt (wSl (wVar 0) (wP (wC (.int 1))) wNoP)) (.nm 5) wYes (wCall 2 c_fits (wCons (wVar 5) (wCons (wVar 1) wNil)))) (gSet 3))
    (sRet (wIf (wTB (wOp (oEq false) (wVar 2) (wC (.str "and")))) (wCB fAll (wCons (wVar 3) wNil)) (wCB fAny (wCons (wVar 3) wNil))))))))
def N_law_cell : List Str := ["script", "k"]
/-- _law_cell -/
def t_law_cell : WS := (sSeq (sIf (wTB (wOp (oEq false) (wVar 0) (wLst wNil))) (sRet (wOp oMul (wVar 1) (wC (.int 7919)))) sNext)
    (sRet (wOp oAdd (wOp oIx (wVar 0) (wOp oMod (wVar 1) (wCB fLen (wCons (wVar 0) wNil)))) (wOp oMul (wOp oDiv (wVar 1) (wCB fLen (wCons (wVar 0) wNil))) (wC (.int 104729))))))
def N_law_drawn : List Str := ["cell", "k", "more"]
/-- _law_drawn -/
def t_law_drawn : WS := (sSeq (sAsg (wOp oMod (wOp oAdd (wOp oMul (wVar 0) (wC (.int 6364136223846793005))) (wOp oMul (wOp oAdd (wVar 1) (wC (.int 1))) (wC (.int 1442695040888963407)))) (wC (.int 340282366920938463463374607431768211507))) (gSet 2))
    (sSeq (sAsg (wOp oMod (wOp oMul (wVar 2) (wVar 2)) (wC (.int 340282366920938463463374607431768211297))) (gSet 2))
    (sSeq (sAsg (wOp oMul (wOp oMul (wOp oAdd (wOp oMod (wVar 2) (wC (.int 18446744073709551557))) (wC (.int 1))) (wOp oAdd (wOp oDiv (wVar 2) (wC (.int 18446744073709551557))) (wC (.int 1)))) (wVar 2)) (gSet 2))
    (sRet (wOp oMod (wVar 2) (wC (.int 340282366920938463463374607431768211507)))))))
def N_law_roll : List Str := ["dice", "many", "told"]
/-- _law_roll -/
def t_law_roll (c_law_drawn : Con) : WS := (sSeq (sIf (wTB (wOp oGe (wOp oIx (wVar 0) (wC (.int 0))) (wOp oPow (wC (.int 10)) (wC (.int 18))))) (sSeq (sAsg (wOp oMod (wOp oIx (wVar 0) (wC (.int 0))) (wVar 1)) (gSet 2))
    (sSeq (sAsg (wOp oDiv (wOp oIx (wVar 0) (wC (.int 0))) (wVar 1)) (gSub (wVar 0) (wC (.int 0))))
    (sRet (wVar 2)))) sNext)
    (sSeq (sAsg (wOp oAdd (wOp oIx (wVar 0) (wC (.int 1))) (wC (.int 1))) (gSub (wVar 0) (wC (.int 1))))
    (sRet (wOp oMod (wOp oDiv (wCall 2 c_law_drawn (wCons (wOp oIx (wVar 0) (wC (.int 0))) (wCons (wOp oIx (wVar 0) (wC (.int 1))) wNil))) (wC (.int 8))) (wVar 1)))))
def N_law_rounds : List Str := ["script", "most", "k"]
/-- _law_rounds -/
def t_law_rounds (c_law_cell : Con) : WS := (sRet (wLc (wRange1 (wCons (wCB fMax (wCons (wC (.int 1)) (wCons (wCB fMin (wCons (wVar 1) (wCons (wCB fLen (wCons (wVar 0) wNil)) wNil))) wNil))) wNil)) (.nm 2) wYes (wLstM (wCons (wCall 2 c_law_cell (wCons (wVar 0) (wCons (wVar 2) wNil))) (wCons (wC (.int 0)) wNil)))))
def N_law_ranges : List Str := ["dice", "most", "turn", "found", "ahead", "wide", "low", "high"]
/-- _law_ranges -/
def t_law_ranges (c_law_roll : Con) : WS := (sSeq (sPar [3, 4, 5] (wCons (wLstM wNil) (wCons (wUn oNeg (wC (.int 1))) (wCons (wOp oAdd (wC (.int 1)) (wOp oDiv (wVar 1) (wOp oIx (wLst (wCons (wC (.int 1)) (wCons (wC (.int 3)) (wCons (wC (.int 9)) (wCons (wC (.int 30)) wNil))))) (wCall 2 c_law_roll (wCons (wVar 0) (wCons (wC (.int 4)) wNil)))))) wNil))))
    (sSeq (sFor (wRange1 (wCons (wOp oAdd (wC (.int 1)) (wCall 2 c_law_roll (wCons (wVar 0) (wCons (wC (.int 3)) wNil)))) wNil)) (Tgt.nm 2).wg (sSeq (sAsg (wOp oAdd (wOp oAdd (wVar 4) (wC (.int 1))) (wCall 2 c_law_roll (wCons (wVar 0) (wCons (wVar 5) wNil)))) (gSet 6))
    (sSeq (sAsg (wCB fMin (wCons (wVar 1) (wCons (wOp oAdd (wVar 6) (wOp oMul (wCall 2 c_law_roll (wCons (wVar 0) (wCons (wVar 5) wNil))) (wCall 2 c_law_roll (wCons (wVar 0) (wCons (wC (.int 2)) wNil))))) wNil))) (gSet 7))
    (sIf (wTB (wOp oLe (wVar 6) (wVar 1))) (sSeq (sDrop (wBM "list" mAppend (wVar 3) (wCons (wTup (wCons (wVar 6) (wCons (wVar 7) wNil))) wNil)))
    (sAsg (wVar 7) (gSet 4))) sNext))))
    (sRet (wIf (wTB (wOp (oEq true) (wVar 3) (wLst wNil))) (wCB fTuple (wCons (wVar 3) wNil)) (wTup (wCons (wTup (wCons (wC (.int 0)) (wCons (wC (.int 0)) wNil))) wNil))))))
def N_law_look : List Str := ["dice", "far", "look", "most"]
/-- _law_look -/
def t_law_look (c_law_ranges c_law_roll : Con) : WS := (sSeq (sAsg (wOp oIx (wLst (wCons (wC (.str "all")) (wCons (wC (.str "last1")) (wCons (wC (.str "last2")) (wCons (wC (.str "last1")) (wCons (wC (.str "last2")) (wCons (wC (.str "all")) (wCons (wC (.str "last1")) (wCons (wC (.str "last3")) wNil))))))))) (wCall 2 c_law_roll (wCons (wVar 0) (wCons (wC (.int 8)) wNil)))) (gSet 2))
    (sSeq (sAsg (wOp oIx (wDct ["all", "last1", "last2", "last3"] (wCons (wVar 1) (wCons (wC (.int 9)) (wCons (wC (.int 99)) (wCons (wC (.int 999)) wNil))))) (wVar 2)) (gSet 3))
    (sRet (wTup (wCons (wC (.str "in")) (wCons (wVar 2) (wCons (wCall 2 c_law_ranges (wCons (wVar 0) (wCons (wVar 3) wNil))) wNil)))))))
def N_law_condition : List Str := ["dice", "deep", "far", "way", "many", "turn"]
/-- _law_condition -/
def t_law_condition (c_law_condition c_law_roll c_law_look : Con) : WS := (sSeq (sAsg (wCall 2 c_law_roll (wCons (wVar 0) (wCons (wC (.int 9)) wNil))) (gSet 3))
    (sSeq (sIf (wTOr (wTB (wOp oLt (wVar 1) (wC (.int 2)))) (wTB (wOp oLt (wVar 3) (wC (.int 2))))) (sRet (wCall 2 c_law_look (wCons (wVar 0) (wCons (wVar 2) wNil)))) sNext)
    (sSeq (sIf (wTB (wOp oLt (wVar 3) (wC (.int 5)))) (sRet (wTup (wCons (wC (.str "not")) (wCons (wCall 3 c_law_condition (wCons (wVar 0) (wCons (wOp oSub (wVar 1) (wC (.int 1))) (wCons (wVar 2) wNil)))) wNil)))) sNext)
    (sSeq (sAsg (wOp oAdd (wC (.int 2)) (wOp oMul (wOp oDiv (wCall 2 c_law_roll (wCons (wVar 0) (wCons (wC (.int 4)) wNil))) (wC (.int 3))) (wCB fInt (wCons (wOp oLt (wVar 1) (wC (.int 4))) wNil)))) (gSet 4))
    (sRet (wOp oAdd (wTup (wCons (wOp oIx (wLst (wCons (wC (.str "and")) (wCons (wC (.str "or")) wNil))) (wOp oMod (wVar 3) (wC (.int 2)))) wNil)) (wCB fTuple (wCons (wLc (wRange1 (wCons (wVar 4) wNil)) (.nm 5) wYes (wCall 3 c_law_condition (wCons (wVar 0) (wCons (wOp oSub (wVar 1) (wC (.int 1))) (wCons (wVar 2) wNil))))) wNil))))))))
end FW

namespace FW
open PySem PySem.Spec L2
@[simp] theorem getS0 {x : Option W} {d : List (Option W)} : getS (x :: d) 0 = x := rfl
@[simp] theorem getSs {x : Option W} {d : List (Option W)} {n : Nat} : getS (x :: d) (n + 1) = getS d n := rfl
theorem atI_nat {α : Type} {l : List α} {i : Nat} (h : i < l.length) : atI l (i : Int) = l[i]? := by
  unfold atI ixN
  rw [if_pos (by omega), if_pos (by omega)]
  simp
@[simp] theorem atI_0 {α : Type} {x : α} {l : List α} : atI (x :: l) 0 = some x := atI_nat (l := x :: l) (i := 0) (by simp)
@[simp] theorem atI_1 {α : Type} {x y : α} {l : List α} : atI (x :: y :: l) 1 = some y := atI_nat (l := x :: y :: l) (i := 1) (by simp)
@[simp] theorem atI_2 {α : Type} {x y z : α} {l : List α} : atI (x :: y :: z :: l) 2 = some z := atI_nat (l := x :: y :: z :: l) (i := 2) (by simp)
theorem atI_last {α : Type} {l : List α} {x : α} (h : l.getLast? = some x) : atI l (-1) = some x := by
  have h0 : 0 < l.length := by
    cases l with
    | nil => cases h
    | cons a r => simp
  unfold atI ixN
  rw [if_neg (by omega), if_pos (by omega)]
  rw [List.getLast?_eq_getElem?] at h
  show l[(-1 + (l.length : Int)).toNat]? = some x
  rw [show (-1 + (l.length : Int)).toNat = l.length - 1 by omega]
  exact h
@[simp] theorem cutW_1 {x : W} {l : List W} : cutW (x :: l) (some 1) none = l := by
  unfold cutW
  simp [HT.sIx]
@[simp] theorem ofStr_inj {a b : String} : (Str.ofString a = Str.ofString b) ↔ a = b := by
  constructor
  · intro h
    rw [Str.ofString_eq_toList, Str.ofString_eq_toList] at h
    simp only [Str.mk.injEq] at h
    have inj : ∀ (x y : List Char), x.map Char.toNat = y.map Char.toNat → x = y := by
      intro x
      induction x with
      | nil => intro y h; cases y with
        | nil => rfl
        | cons _ _ => cases h
      | cons c r ih => intro y h; cases y with
        | nil => cases h
        | cons d s =>
          simp only [List.map_cons, List.cons.injEq] at h
          rw [ih s h.2, Char.toNat_inj.mp h.1]
    exact String.ext (inj _ _ (by simpa using congrArg Array.toList h))
  · rintro rfl; rfl
theorem three {ws : List W} (h : ws.length = 3) : ∃ a b c, ws = [a, b, c] := by
  match ws, h with
  | [a, b, c], _ => exact ⟨a, b, c, rfl⟩
theorem two {ws : List W} (h : ws.length = 2) : ∃ a b, ws = [a, b] := by
  match ws, h with
  | [a, b], _ => exact ⟨a, b, rfl⟩
theorem one {ws : List W} (h : ws.length = 1) : ∃ a, ws = [a] := by
  match ws, h with
  | [a], _ => exact ⟨a, rfl⟩
theorem r_seq {t u : WS} {T : EW} {d : List (Option W)} {m : Sto} (h : t { T with nx := u T } d m) : sSeq t u T d m := h
theorem r_next {T : EW} {d : List (Option W)} {m : Sto} (h : T.nx d m) : sNext T d m := h
theorem r_if {c : WT} {t u : WS} {T : EW} {d : List (Option W)} {m : Sto} (b : Bool) (m' : Sto) (h : ∀ K : Bool → Sto → Prop, K b m' → c d m K T.ex) (k : if b = true then t T d m' else u T d m') : sIf c t u T d m := h _ k
theorem r_ret {e : WE} {T : EW} {d : List (Option W)} {m : Sto} (v : W) (m' : Sto) (h : ∀ K : WR, K v m' → e d m K T.ex) (k : T.rt v m') : sRet e T d m := h _ k
/-- no, and on -/
theorem r_skip {c : WT} {t : WS} {T : EW} {d : List (Option W)} {m : Sto} (m' : Sto) (h : ∀ K : Bool → Sto → Prop, K false m' → c d m K T.ex) (k : T.nx d m') : sIf c t sNext T d m := h _ (by simpa [sNext] using k)
/-- yes -/
theorem r_yes {c : WT} {t u : WS} {T : EW} {d : List (Option W)} {m : Sto} (m' : Sto) (h : ∀ K : Bool → Sto → Prop, K true m' → c d m K T.ex) (k : t T d m') : sIf c t u T d m := h _ (by simpa using k)
theorem q_asg {e : WE} {i : Nat} {u : WS} {T : EW} {d : List (Option W)} {m : Sto} (v : W) (m' : Sto) (h : ∀ K : WR, K v m' → e d m K T.ex) (k : u T (d.set i (some v)) m') : sSeq (sAsg e (gSet i)) u T d m := h _ k
theorem q_skip {c : WT} {t u : WS} {T : EW} {d : List (Option W)} {m : Sto} (m' : Sto) (h : ∀ K : Bool → Sto → Prop, K false m' → c d m K T.ex) (k : u T d m') : sSeq (sIf c t sNext) u T d m := h _ (by simpa [sNext] using k)
theorem q_yes {c : WT} {t t2 u : WS} {T : EW} {d : List (Option W)} {m : Sto} (m' : Sto) (h : ∀ K : Bool → Sto → Prop, K true m' → c d m K T.ex) (k : t { T with nx := u T } d m') : sSeq (sIf c t t2) u T d m := h _ (by simpa using k)
theorem for_inv {still : Sto → Prop} {gt : WG} {body : WS} {T : EW} (I : List W → List (Option W) → Sto → Prop)
    (step : ∀ w ws d m, I (w :: ws) d m → ∀ P : List (Option W) → Sto → Prop, (∀ d' m', I ws d' m' → P d' m') → still m ∧ gt w d m (fun d1 m1 => body { T with nx := P, ct := P, bk := T.nx } d1 m1))
    (fin : ∀ d m, I [] d m → still m ∧ T.nx d m) : ∀ ws d m, I ws d m → sForL still gt body T ws d m
  | [], d, m, h => fin d m h
  | w :: ws, d, m, h => step w ws d m h _ fun d' m' h' => for_inv I step fin ws d' m' h'
theorem lc_inv {still : Sto → Prop} {gt : WG} {te : WE} {d0 : List (Option W)} {R : List W → Sto → Prop} (I : List W → List W → Sto → Prop)
    (step : ∀ w ws acc m, I (w :: ws) acc m → still m ∧ acc.length < sizeLine ∧ ∀ K : WR, (∀ y m', I ws (acc ++ [y]) m' → K y m') → gt w d0 m (fun d1 m1 => te d1 m1 K noZ))
    (fin : ∀ acc m, I [] acc m → still m ∧ R acc m) : ∀ ws acc m, I ws acc m → lcGo still gt wYes te d0 R ws acc m
  | [], acc, m, h => fin acc m h
  | w :: ws, acc, m, h => by
    obtain ⟨h1, h2, h3⟩ := step w ws acc m h
    unfold lcGo wYes
    simp only [if_true]
    exact ⟨h1, h3 _ fun y m' h' => ⟨h2, lc_inv I step fin ws (acc ++ [y]) m' h'⟩⟩
theorem lc_map {still : Sto → Prop} {gt : WG} {te : WE} {d0 : List (Option W)} {R : List W → Sto → Prop} {m : Sto} (f : W → W) (hs : still m) : ∀ (ws acc : List W),
    acc.length + ws.length ≤ sizeLine → (∀ w ∈ ws, ∀ K : WR, K (f w) m → gt w d0 m (fun d1 m1 => te d1 m1 K noZ)) → R (acc ++ ws.map f) m → lcGo still gt wYes te d0 R ws acc m
  | [], acc, _, _, h => ⟨hs, by simpa using h⟩
  | w :: ws, acc, hl, hf, h => by
    unfold lcGo wYes
    simp only [if_true]
    refine ⟨hs, hf w (by simp) _ ⟨by simp at hl; omega, lc_map f hs ws (acc ++ [f w]) (by simp at hl ⊢; omega) (fun u hu => hf u (List.mem_cons_of_mem _ hu)) ?_⟩⟩
    simpa using h
end FW

namespace FW
open PySem PySem.Spec L2
local macro_rules | `(tactic| walk_at "fw") => `(tactic| simp only [startW, endW, sRet, sRetN, sNext, sSeq, sDrop, sIf, sAsg, sRaise, sPar, sBreak, sCont, gSet, gTupN, gsetN, gSub, oSet, wC, wVar, getS0, getSs, wOp, wUn, wAnd, wOr, wNot, wTru, wTAnd, wTOr, wTNot, wTB, wChain, wIf, wCB, wCall, wNil, wCons, wTup, wLst, wLstM, wDct, wSl, wP, wNoP, wBM, wIt, wRange1, wRange2, wLc, wLcM, sFor, Tgt.wg, Tgt.slots, wipeW,
  List.map_cons, List.map_nil, List.length_cons, List.length_nil, List.replicate, List.append_nil, List.nil_append, List.cons_append, List.getElem?_cons_zero, List.getElem?_cons_succ, List.set_cons_zero, List.set_cons_succ, if_true, true_and, and_true])

mutual
def noRef : W → Bool
  | .tup l => noRefs l
  | .lst l => noRefs l
  | .fzl l => noRefs l
  | .tpu _ => false
  | .ref _ => false
  | .fnv _ _ _ _ _ => false
  | .exv _ _ => false
  | _ => true
def noRefs : List W → Bool
  | [] => true
  | w :: ws => noRef w && noRefs ws
end
theorem noRefs_mem : ∀ {l : List W}, noRefs l = true → ∀ w ∈ l, noRef w = true
  | [], _, _, h => by cases h
  | a :: r, e, w, h => by
    unfold noRefs at e
    rw [Bool.and_eq_true] at e
    rcases List.mem_cons.mp h with rfl | h
    · exact e.1
    · exact noRefs_mem e.2 w h
theorem noRef_ty {m : Sto} {w : W} (h : noRef w = true) : (tyW m w).isSome = true := by
  cases w <;> first | rfl | (unfold noRef at h; cases h)

def isNum (lo hi : Int) : W → Bool
  | .int i => decide (lo ≤ i) && decide (i ≤ hi)
  | _ => false
def toI : W → Int
  | .int i => i
  | _ => 0
def c_is_number : Con := fun ws m R _ => match ws with
  | [t, .int lo, .int hi] => (tyW m t).isSome = true ∧ R (.bl (isNum lo hi t)) m
  | _ => False
theorem ty_ref {m : Sto} {n : Nat} {t : String} (h : tyW m (.ref n) = some t) : t = "list" ∨ t = "dict" := by
  have h : (match m[n]? with
    | some (.lst _) => some "list"
    | some (.dct _) => some "dict"
    | some (.dcl _ _ _) => some "dict"
    | some (.dtc _) => some "dict"
    | _ => none) = some t := h
  cases e : m[n]? with
  | none => rw [e] at h; cases h
  | some o =>
    rw [e] at h
    cases o <;> first | (cases h; exact .inl rfl) | (cases h; exact .inr rfl) | cases h
theorem b_is_number : ∀ ws m R Z, ws.length = 3 → c_is_number ws m R Z → t_is_number (endW R Z) (startW N_is_number ws) m := by
  intro ws m R Z hl h
  obtain ⟨a, b, c, rfl⟩ := three hl
  cases b <;> try exact h.elim
  cases c <;> try exact h.elim
  rename_i lo hi
  obtain ⟨h1, h2⟩ := h
  unfold t_is_number N_is_number
  walk_at "fw"
  cases a with
  | int i =>
    simp only [oIsi, tyW, isiB, truW, oLe]
    simp only [isNum] at h2
    by_cases h : lo ≤ i <;> simp [h] at h2 ⊢ <;> exact h2
  | bl i => simpa [oIsi, tyW, isiB, truW, isNum] using h2
  | ref n =>
    cases e : tyW m (.ref n) with
    | none => rw [e] at h1; cases h1
    | some t =>
      simp only [isNum] at h2
      rcases ty_ref e with rfl | rfl <;> simpa [oIsi, e, isiB, truW] using h2
  | fnv _ _ _ _ _ => cases h1
  | exv _ _ => cases h1
  | tpu _ => cases h1
  | _ => simpa [oIsi, tyW, isiB, truW, isNum] using h2
def c_need_number : Con := fun ws m R Z => match ws with
  | [t] => (tyW m t).isSome = true ∧ (isNum 0 (10 ^ 15) t = true → R .non m) ∧ (isNum 0 (10 ^ 15) t = false → Z { cls := "BadNumber" } m)
  | _ => False
theorem b_need_number : ∀ ws m R Z, ws.length = 1 → c_need_number ws m R Z → t_need_number c_is_number (endW R Z) (startW N_need_number ws) m := by
  intro ws m R Z hl h
  obtain ⟨a, rfl⟩ := one hl
  obtain ⟨h1, h2, h3⟩ := h
  unfold t_need_number N_need_number
  walk_at "fw"
  simp only [c_is_number, truW]
  refine ⟨h1, ?_⟩
  cases e : isNum 0 (10 ^ 15) a
  · simpa using h3 e
  · simpa using h2 e

def areRs (most : Int) : Int → List W → Bool
  | _, [] => true
  | ahead, .tup [a, b] :: r => isNum (ahead + 1) most a && (isNum (toI a) most b && areRs most (toI b) r)
  | _, _ :: _ => false
def areRanges (most : Int) : W → Bool
  | .tup l => decide (1 ≤ l.length) && decide (l.length ≤ 6) && areRs most (-1) l
  | _ => false
def c_are_ranges : Con := fun ws m R _ => match ws with
  | [t, .int most] => noRef t = true ∧ R (.bl (areRanges most t)) m
  | _ => False
theorem tup_or (w : W) : (∃ l, w = .tup l) ∨ (∀ l, w ≠ .tup l) := by
  cases w <;> first | exact .inl ⟨_, rfl⟩ | (exact .inr fun _ h => by cases h)
theorem isi_tup {m : Sto} {w : W} (h : (tyW m w).isSome = true) (hn : ∀ l, w ≠ .tup l) : ∃ t, tyW m w = some t ∧ isiB t "tuple" = false := by
  cases w <;> first | exact ⟨_, rfl, rfl⟩ | exact absurd rfl (hn _) | (cases h; done) | skip
  rename_i n
  cases e : tyW m (.ref n) with
  | none => rw [e] at h; cases h
  | some t => rcases ty_ref e with rfl | rfl <;> exact ⟨_, rfl, rfl⟩
theorem isNum_int {lo hi : Int} {w : W} (h : isNum lo hi w = true) : ∃ i, w = .int i := by
  cases w <;> first | exact ⟨_, rfl⟩ | cases h
theorem areRs_not {most ahead : Int} {w : W} {r : List W} (h : ∀ a b, w ≠ .tup [a, b]) : areRs most ahead (w :: r) = false := by
  unfold areRs
  split
  · rename_i e; cases e
  · rename_i e; cases e; exact absurd rfl (h _ _)
  · rfl
theorem b_are_ranges : ∀ ws m R Z, ws.length = 2 → c_are_ranges ws m R Z → t_are_ranges c_is_number (endW R Z) (startW N_are_ranges ws) m := by
  intro ws m R Z hl h
  obtain ⟨a, b, rfl⟩ := two hl
  cases b <;> try exact h.elim
  rename_i most
  obtain ⟨h1, h2⟩ := h
  unfold t_are_ranges N_are_ranges
  walk_at "fw"
  rcases tup_or a with ⟨l, rfl⟩ | hn
  · have ty : tyW m (.tup l) = some "tuple" := rfl
    simp only [oIsi, ty, show isiB "tuple" "tuple" = true from rfl, truW, fLen, lenW, seqOf, oLe, Bool.not_true, Bool.false_eq_true, if_false]
    unfold areRanges at h2
    have c1 : (1 ≤ (l.length : Int)) = (1 ≤ l.length) := propext (by omega)
    have c2 : ((l.length : Int) ≤ 6) = (l.length ≤ 6) := propext (by omega)
    simp only [c1, c2]
    by_cases q1 : 1 ≤ l.length
    · by_cases q2 : l.length ≤ 6
      · simp only [q1, q2, decide_true, if_true, Bool.not_true, Bool.false_eq_true, if_false, Bool.true_and] at h2 ⊢
        unfold noRef at h1
        refine for_inv (I := fun ws d m' => m' = m ∧ noRefs ws = true ∧ ∃ ahead o, d = [some (.tup l), some (.int most), some (.int ahead), o] ∧ R (.bl (areRs most ahead ws)) m) ?_ ?_ l _ m ⟨rfl, h1, -1, none, rfl, h2⟩
        · rintro w ws d m' ⟨rfl, hr, ahead, o, rfl, hR⟩ P hP
          refine ⟨trivial, ?_⟩
          unfold noRefs at hr
          rw [Bool.and_eq_true] at hr
          walk_at "fw"
          rcases tup_or w with ⟨l2, rfl⟩ | hn
          · have ty : tyW m' (.tup l2) = some "tuple" := rfl
            simp only [oIsi, ty, show isiB "tuple" "tuple" = true from rfl, truW, fLen, lenW, seqOf, Bool.not_true, Bool.false_eq_true, if_false, oEq, scalW, Bool.xor_true]
            by_cases q3 : l2.length = 2
            · obtain ⟨x, y, rfl⟩ := two q3
              have hx : noRef x = true ∧ noRef y = true := by
                have := hr.1
                simp [noRef, noRefs] at this
                exact this
              simp only [q3, show (decide ((2 : Int) = 2)) = true from rfl]
              simp only [areRs] at hR
              simp [oIx, seqOf, oAdd, c_is_number, noRef_ty hx.1, noRef_ty hx.2, truW]
              cases e1 : isNum (ahead + 1) most x with
              | false => rw [e1] at hR; simpa using hR
              | true =>
                obtain ⟨i, rfl⟩ := isNum_int e1
                rw [e1] at hR
                simp [toI, show (tyW m' y).isSome = true from noRef_ty hx.2] at hR ⊢
                cases e2 : isNum i most y with
                | false => rw [e2] at hR; simpa using hR
                | true =>
                  obtain ⟨j, rfl⟩ := isNum_int e2
                  rw [e2] at hR
                  simp [toI] at hR ⊢
                  exact hP _ _ ⟨rfl, hr.2, j, _, rfl, hR⟩
            · have : decide ((l2.length : Int) = 2) = false := decide_eq_false (by omega)
              rw [areRs_not (by rintro a b h; cases h; exact q3 rfl)] at hR
              simpa [this] using hR
          · obtain ⟨t, e1, e2⟩ := isi_tup (noRef_ty (m := m') hr.1) hn
            rw [areRs_not (fun a b => hn _)] at hR
            simpa [oIsi, e1, e2, truW] using hR
        · rintro d m' ⟨rfl, _, ahead, o, rfl, hR⟩
          exact ⟨trivial, hR⟩
      · simpa [q1, q2] using h2
    · simpa [q1] using h2
  · obtain ⟨t, e1, e2⟩ := isi_tup (noRef_ty (m := m) h1) hn
    have : areRanges most a = false := by
      cases a <;> first | rfl | exact absurd rfl (hn _)
    rw [this] at h2
    simpa [oIsi, e1, e2, truW] using h2
end FW

namespace FW
open PySem PySem.Spec L2
local macro_rules | `(tactic| walk_at "fw") => `(tactic| simp only [startW, endW, sRet, sRetN, sNext, sSeq, sDrop, sIf, sAsg, sRaise, sPar, sBreak, sCont, gSet, gTupN, gsetN, gSub, oSet, wC, wVar, getS0, getSs, wOp, wUn, wAnd, wOr, wNot, wTru, wTAnd, wTOr, wTNot, wTB, wChain, wIf, wCB, wCall, wNil, wCons, wTup, wLst, wLstM, wDct, wSl, wP, wNoP, wBM, wIt, wRange1, wRange2, wLc, wLcM, sFor, Tgt.wg, Tgt.slots, wipeW,
  List.map_cons, List.map_nil, List.length_cons, List.length_nil, List.replicate, List.append_nil, List.nil_append, List.cons_append, List.getElem?_cons_zero, List.getElem?_cons_succ, List.set_cons_zero, List.set_cons_succ, if_true, true_and, and_true])
def lookTop (x : Str) : Option Int :=
  if x = "all" then some 1000000 else if x = "last1" then some 9 else if x = "last2" then some 99 else if x = "last3" then some 999 else none
def lookTurn (x : Str) : Option Int :=
  if x = "all" then some 1 else if x = "last1" then some 10 else if x = "last2" then some 100 else if x = "last3" then some 1000 else none
theorem val_LOOKS (x : Str) : valW ([(Sum.inr "all", W.int 1000000), (Sum.inr "last1", W.int 9), (Sum.inr "last2", W.int 99), (Sum.inr "last3", W.int 999)] : List (Key × W)) (Sum.inr x : Key) = (lookTop x).map W.int := by
  simp only [valW, lookTop, Sum.inr.injEq, @eq_comm Str _ x]
  repeat' split
  all_goals rfl
theorem val_TURNS (x : Str) : valW ([(Sum.inr "all", W.int 1), (Sum.inr "last1", W.int 10), (Sum.inr "last2", W.int 100), (Sum.inr "last3", W.int 1000)] : List (Key × W)) (Sum.inr x : Key) = (lookTurn x).map W.int := by
  simp only [valW, lookTurn, Sum.inr.injEq, @eq_comm Str _ x]
  repeat' split
  all_goals rfl
/-- the shape of a condition that is no look -/
def goodHead (x : Str) (n : Nat) : Bool := ((decide (x = "and") || decide (x = "or")) && (decide (3 ≤ n) && decide (n ≤ 7))) || (decide (x = "not") && decide (n = 2))
def lookParts : List W → Nat
  | [.str y, g] => (match lookTop y with
    | some most => if areRanges most g = true then 1 else 0
    | none => 0)
  | _ => 0
theorem lookParts_len {l : List W} (h : l.length ≠ 2) : lookParts l = 0 := by
  unfold lookParts
  split
  · exact absurd rfl h
  · rfl
theorem lookParts_str {y g : W} (h : ∀ x, y ≠ .str x) : lookParts [y, g] = 0 := by
  unfold lookParts
  split
  · rename_i e; cases e; exact absurd rfl (h _)
  · rfl
def partsW : Nat → W → Nat
  | n + 1, .tup (.str x :: a :: r) =>
    if x = "in" then lookParts (a :: r)
    else if goodHead x (r.length + 2) = true then (if 0 ∈ (a :: r).map (partsW n) then 0 else 1 + ((a :: r).map (partsW n)).sum) else 0
  | _, _ => 0
def c_parts_of (n : Nat) : Con := fun ws m R _ => match ws with
  | [t, .int d] => 0 ≤ d ∧ d.toNat < n ∧ noRef t = true ∧ R (.int (partsW d.toNat t)) m
  | _ => False
theorem str_or (w : W) : (∃ l, w = .str l) ∨ (∀ l, w ≠ .str l) := by
  cases w <;> first | exact .inl ⟨_, rfl⟩ | (exact .inr fun _ h => by cases h)
theorem isi_str {m : Sto} {w : W} (h : (tyW m w).isSome = true) (hn : ∀ l, w ≠ .str l) : ∃ t, tyW m w = some t ∧ isiB t "str" = false := by
  cases w <;> first | exact ⟨_, rfl, rfl⟩ | exact absurd rfl (hn _) | (cases h; done) | skip
  rename_i n
  cases e : tyW m (.ref n) with
  | none => rw [e] at h; cases h
  | some t => rcases ty_ref e with rfl | rfl <;> exact ⟨_, rfl, rfl⟩
theorem partsW_0 (w : W) : partsW 0 w = 0 := by unfold partsW; rfl
theorem partsW_no {n : Nat} {w : W} (h : ∀ x a r, w ≠ .tup (.str x :: a :: r)) : partsW n w = 0 := by
  unfold partsW
  split
  · exact absurd rfl (h _ _ _)
  · rfl
theorem intsW_of {f : W → Nat} : ∀ l : List W, intsW (l.map fun w => W.int (f w)) = some (l.map fun w => (f w : Int))
  | [] => rfl
  | a :: r => by simp [intsW, intsW_of r]
theorem sum_of {f : W → Nat} : ∀ l : List W, (l.map fun w => (f w : Int)).sum = ((l.map f).sum : Nat)
  | [] => rfl
  | a :: r => by simp [sum_of r]
theorem flat_of {f : W → Nat} : ∀ l : List W, (l.map fun w => W.int (f w)).all isFlat = true
  | [] => rfl
  | a :: r => by simp [isFlat]
theorem any0 {f : W → Nat} : ∀ l : List W, ((l.map fun w => W.int (f w)).any fun z => eqF z (.int 0)) = decide (0 ∈ l.map f)
  | [] => rfl
  | a :: r => by
    rw [List.map_cons, List.any_cons, any0 r, List.map_cons]
    simp only [eqF, List.mem_cons]
    by_cases h : f a = 0
    · simp [h]
    · have : ¬ (0 = f a) := fun e => h e.symm
      simp [h, this]
theorem beq_dec (a x : Str) : (a == x) = decide (x = a) := by
  by_cases h : x = a
  · subst h; simp
  · rw [decide_eq_false h, beq_eq_false_iff_ne]
    exact fun e => h e.symm
theorem parts_rest {n k : Nat} {m : Sto} {R : WR} {Z : WZ} {x : Str} {y : W} {r : List W} (qi : x ≠ "in") (hk : k < n) (hx : noRefs (y :: r) = true) 
    (h2 : R (.int ((if goodHead x (r.length + 2) = true then (if 0 ∈ (y :: r).map (partsW k) then 0 else 1 + ((y :: r).map (partsW k)).sum) else 0 : Nat))) m) :
    t_parts_of (c_parts_of n) c_are_ranges (endW R Z) (startW N_parts_of [.tup (.str x :: y :: r), .int (k + 1 : Nat)]) m := by
  unfold t_parts_of N_parts_of
  have e0 : startW ["thing", "deep", "good", "rows", "part"] [W.tup (.str x :: y :: r), W.int (k + 1 : Nat)] = [some (W.tup (.str x :: y :: r)), some (W.int (k + 1 : Nat)), none, none, none] := rfl
  rw [e0]
  have l2 : ¬ (((r.length + 1 + 1 : Nat) : Int) < 2) := by omega
  have d0 : ¬ (((k + 1 : Nat) : Int) = 0) := by omega
  refine q_skip m (fun K hK => ?_) ?_
  · walk_at "fw"
    simp only [oEq, scalW, d0, decide_false, oIsi, tyW, isiB, truW, fLen, lenW, seqOf, oLt, List.length_cons, l2, oIx, atI_0]
    simpa using hK
  refine q_skip m (fun K hK => ?_) ?_
  · walk_at "fw"
    simp only [oEq, scalW, oIx, seqOf, atI_0, qi]
    simpa using hK
  refine q_asg (.bl (goodHead x (r.length + 2))) m (fun K hK => ?_) ?_
  · walk_at "fw"
    have fa : ((Str.ofString "and") == x) = decide (x = "and") := beq_dec _ _
    have fo : ((Str.ofString "or") == x) = decide (x = "or") := beq_dec _ _
    have g3 : (3 ≤ ((r.length + 1 + 1 : Nat) : Int)) = (3 ≤ r.length + 2) := propext (by omega)
    have g7 : (((r.length + 1 + 1 : Nat) : Int) ≤ 7) = (r.length + 2 ≤ 7) := propext (by omega)
    have g2 : (((r.length + 1 + 1 : Nat) : Int) = 2) = (r.length + 2 = 2) := propext (by omega)
    unfold goodHead at hK
    simp only [oEq, scalW, oIx, seqOf, atI_0, oIn, fLen, lenW, List.length_cons, oLe, isFlat, List.all_cons, List.all_nil, List.any_cons, List.any_nil, eqF, truW, g3, g7, g2, fa, fo]
    refine ⟨by decide, .inl ⟨trivial, rfl, ?_⟩⟩
    clear g3 g7 g2 fa fo
    generalize decide (x = Str.ofString "and") = pa at hK ⊢
    generalize decide (x = Str.ofString "or") = po at hK ⊢
    generalize decide (x = Str.ofString "not") = pn at hK ⊢
    generalize decide (3 ≤ r.length + 2) = p3 at hK ⊢
    generalize decide (r.length + 2 ≤ 7) = p7 at hK ⊢
    generalize decide (r.length + 2 = 2) = p2 at hK ⊢
    cases pa <;> cases po <;> cases pn <;> cases p3 <;> cases p7 <;> cases p2 <;> exact hK
  show sSeq _ _ _ [some (W.tup (.str x :: y :: r)), some (W.int (k + 1 : Nat)), some (.bl (goodHead x (r.length + 2))), none, none] m
  cases hg : goodHead x (r.length + 2) with
  | false =>
    rw [hg] at h2
    refine q_asg (.lst [.int 0]) m (fun K hK => ?_) ?_
    · walk_at "fw"
      simp only [truW]
      simp
      exact ⟨by decide, hK⟩
    · refine r_ret (.int 0) m (fun K hK => ?_) h2
      walk_at "fw"
      simp [oIn, seqOf, lstOf, isFlat, eqF]
      exact hK
  | true =>
    rw [hg] at h2
    have hlen : r.length + 2 ≤ 7 := by
      unfold goodHead at hg
      simp only [Bool.or_eq_true, Bool.and_eq_true, decide_eq_true_eq] at hg
      omega
    have hlen : (y :: r).length ≤ 6 := by simp only [List.length_cons]; omega
    generalize hl : y :: r = l at h2 hx hlen ⊢
    refine q_asg (.lst (l.map fun w => W.int (partsW k w))) m (fun K hK => ?_) ?_
    · walk_at "fw"
      simp only [truW, oSl, cutW_1]
      simp only [if_true]
      refine lc_map (fun w => W.int (partsW k w)) trivial l [] ?_ ?_ hK
      · have : (2 : Nat) ^ 24 = 16777216 := by decide
        simp only [List.length_nil, sizeLine]
        omega
      · intro w hw K hK
        walk_at "fw"
        simp only [oSub, c_parts_of]
        rw [show ((k + 1 : Nat) : Int) - 1 = (k : Nat) by omega]
        refine ⟨by omega, by simpa using hk, noRefs_mem hx w hw, by simpa using hK⟩
    · refine r_ret (.int _) m (fun K hK => ?_) h2
      walk_at "fw"
      simp only [oIn, seqOf, lstOf, flat_of, any0, isFlat]
      refine .inl ⟨trivial, trivial, ?_⟩
      by_cases h0 : 0 ∈ l.map (partsW k)
      · simp only [h0, if_true] at hK
        simp only [h0]
        simpa using hK
      · simp only [h0, if_false] at hK
        simp only [h0, decide_false, Bool.false_xor, if_true, fSum, lintOf, lstOf, intsW_of, sum_of, oAdd]
        simpa using hK
theorem b_parts_of (n : Nat) : ∀ ws m R Z, ws.length = 2 → c_parts_of (n + 1) ws m R Z → t_parts_of (c_parts_of n) c_are_ranges (endW R Z) (startW N_parts_of ws) m := by
  intro ws m R Z hl h
  obtain ⟨a, b, rfl⟩ := two hl
  cases b <;> try exact h.elim
  rename_i d
  obtain ⟨hd, hn, h1, h2⟩ := h
  by_cases last : ∃ (k : Nat) (x : Str) (y : W) (r : List W), d = (k + 1 : Nat) ∧ a = .tup (.str x :: y :: r) ∧ x ≠ "in"
  · obtain ⟨k, x, y, r, rfl, rfl, qi⟩ := last
    simp only [Int.toNat_natCast] at hn h2
    unfold partsW at h2
    simp only [qi, if_false] at h2
    refine parts_rest qi (by omega) ?_ h2
    simp [noRef, noRefs] at h1 ⊢
    exact h1
  unfold t_parts_of N_parts_of
  walk_at "fw"
  simp only [oEq, scalW, Bool.xor_false]
  by_cases q0 : d = 0
  · subst q0
    rw [show (0 : Int).toNat = 0 from rfl, partsW_0] at h2
    simpa using h2
  · simp only [q0, decide_false, Bool.false_eq_true, if_false]
    rcases tup_or a with ⟨l, rfl⟩ | ht
    · have ty : tyW m (.tup l) = some "tuple" := rfl
      simp only [oIsi, ty, show isiB "tuple" "tuple" = true from rfl, truW, fLen, lenW, seqOf, oLt, Bool.not_true, Bool.false_eq_true, if_false]
      match l, h1, h2 with
      | [], h1, h2 =>
        rw [partsW_no (by rintro x a r e; cases e)] at h2
        simpa using h2
      | [x], h1, h2 =>
        rw [partsW_no (by rintro x a r e; cases e)] at h2
        simpa using h2
      | x :: y :: r, h1, h2 =>
        have hx : noRef x = true ∧ noRef y = true ∧ noRefs r = true := by
          simp [noRef, noRefs] at h1
          exact h1
        simp only [List.length_cons, oIx, seqOf, atI_0, atI_1, show ¬ (((r.length + 1 + 1 : Nat) : Int) < 2) by omega, decide_false, Bool.false_eq_true, if_false]
        rcases str_or x with ⟨x, rfl⟩ | hs
        · have ty2 : tyW m (.str x) = some "str" := rfl
          simp only [ty2, show isiB "str" "str" = true from rfl, Bool.not_true, Bool.false_eq_true, if_false, scalW]
          obtain ⟨k, rfl⟩ : ∃ k : Nat, d = (k + 1 : Nat) := ⟨d.toNat - 1, by omega⟩
          simp only [Int.toNat_natCast] at hn h2
          have ed : ((k + 1 : Nat) : Int) - 1 = (k : Nat) := by omega
          unfold partsW at h2
          by_cases qi : x = "in"
          · simp only [qi, decide_true, if_true] at h2 ⊢
            by_cases q3 : r.length = 1
            · obtain ⟨g, rfl⟩ := one q3
              simp only [List.length_cons, List.length_nil, show decide (((0 + 1 + 1 + 1 : Nat) : Int) = 3) = true from rfl, if_true]
              have hg : noRef g = true := by
                have := hx.2.2
                simpa [noRefs] using this
              rcases str_or y with ⟨y, rfl⟩ | hs
              · have ty3 : tyW m (.str y) = some "str" := rfl
                simp only [ty3, show isiB "str" "str" = true from rfl, if_true, oIn, dLOOKS, val_LOOKS, Bool.xor_false, truW, Option.isSome_map, dctOf, atI_2]
                simp only [lookParts] at h2
                cases e : lookTop y with
                | none => rw [e] at h2; simpa [fInt] using h2
                | some most =>
                  rw [e] at h2
                  simp [c_are_ranges, hg, fInt]
                  cases e2 : areRanges most g
                  · simp only [e2] at h2; simpa using h2
                  · simp only [e2] at h2; simpa using h2
              · obtain ⟨t, e1, e2⟩ := isi_str (noRef_ty (m := m) hx.2.1) hs
                rw [lookParts_str hs] at h2
                simpa [e1, e2, truW, fInt] using h2
            · have : decide (((r.length + 1 + 1 : Nat) : Int) = 3) = false := decide_eq_false (by omega)
              rw [lookParts_len (by simp; omega)] at h2
              simp only [this, fInt, truW, Bool.false_eq_true, if_false]
              exact h2
          · simp only [qi, decide_false, Bool.false_eq_true, if_false] at h2 ⊢
            exact absurd ⟨k, x, y, r, rfl, rfl, qi⟩ last
        · obtain ⟨t, e1, e2⟩ := isi_str (noRef_ty (m := m) hx.1) hs
          rw [partsW_no (by rintro x' a r e; cases e; exact hs _ rfl)] at h2
          simpa [e1, e2, truW] using h2
    · obtain ⟨t, e1, e2⟩ := isi_tup (noRef_ty (m := m) h1) ht
      rw [partsW_no (by rintro x a r e; exact ht _ e)] at h2
      simpa [oIsi, e1, e2, truW] using h2
end FW

namespace FW
open PySem PySem.Spec L2
local macro_rules | `(tactic| walk_at "fw") => `(tactic| simp only [startW, endW, sRet, sRetN, sNext, sSeq, sDrop, sIf, sAsg, sRaise, sPar, sBreak, sCont, gSet, gTupN, gsetN, gSub, oSet, wC, wVar, getS0, getSs, wOp, wUn, wAnd, wOr, wNot, wTru, wTAnd, wTOr, wTNot, wTB, wChain, wIf, wCB, wCall, wNil, wCons, wTup, wLst, wLstM, wDct, wSl, wP, wNoP, wBM, wIt, wRange1, wRange2, wLc, wLcM, sFor, Tgt.wg, Tgt.slots, wipeW,
  List.map_cons, List.map_nil, List.length_cons, List.length_nil, List.replicate, List.append_nil, List.nil_append, List.cons_append, List.getElem?_cons_zero, List.getElem?_cons_succ, List.set_cons_zero, List.set_cons_succ, if_true, true_and, and_true])
def isCond (t : W) : Bool := decide (1 ≤ partsW 6 t) && decide (partsW 6 t ≤ 60)
def c_is_condition : Con := fun ws m R _ => match ws with
  | [t] => noRef t = true ∧ R (.bl (isCond t)) m
  | _ => False
theorem b_is_condition : ∀ ws m R Z, ws.length = 1 → c_is_condition ws m R Z → t_is_condition (c_parts_of 7) (endW R Z) (startW N_is_condition ws) m := by
  intro ws m R Z hl h
  obtain ⟨a, rfl⟩ := one hl
  obtain ⟨h1, h2⟩ := h
  unfold t_is_condition N_is_condition
  walk_at "fw"
  simp only [c_parts_of, oLe]
  refine ⟨by decide, by decide, h1, ?_⟩
  unfold isCond at h2
  simp only [show (6 : Int).toNat = 6 from rfl, show (1 ≤ ((partsW 6 a : Nat) : Int)) = (1 ≤ partsW 6 a) from propext (by omega), show (((partsW 6 a : Nat) : Int) ≤ 60) = (partsW 6 a ≤ 60) from propext (by omega)]
  cases e : decide (1 ≤ partsW 6 a)
  · rw [e] at h2; simpa using h2
  · rw [e] at h2; simpa using h2
def c_last_of : Con := fun ws m R _ => match ws with
  | [.int n, .int t] => 0 < t ∧ t < 2 ^ 64 ∧ R (.int (n % t)) m
  | _ => False
theorem log2_small {t : Int} (h1 : 0 < t) (h2 : t < 2 ^ 64) : t.natAbs.log2 < 9000 := by
  have : t.natAbs < 2 ^ 64 := by omega
  have h3 : t.natAbs ≠ 0 := by omega
  have := (Nat.log2_lt h3).mpr this
  omega
theorem b_last_of : ∀ ws m R Z, ws.length = 2 → c_last_of ws m R Z → t_last_of (endW R Z) (startW N_last_of ws) m := by
  intro ws m R Z hl h
  obtain ⟨a, b, rfl⟩ := two hl
  cases a <;> try exact h.elim
  cases b <;> try exact h.elim
  rename_i n t
  obtain ⟨h1, h2, h3⟩ := h
  unfold t_last_of N_last_of
  walk_at "fw"
  simp only [oDiv, oMul, oSub]
  refine ⟨⟨h1, log2_small h1 h2⟩, .inl (.inr ⟨by omega, h2⟩), ?_⟩
  have : n - n / t * t = n % t := by
    have := Int.emod_def n t
    rw [this, Int.mul_comm]
  rw [this]; exact h3
inductive Cond where
  | look (l : Str) (rs : List (Int × Int)) | neg (c : Cond) | many (b : Bool) (cs : List Cond)
def encR (r : Int × Int) : W := .tup [.int r.1, .int r.2]
mutual
def enc : Cond → W
  | .look l rs => .tup [.str "in", .str l, .tup (rs.map encR)]
  | .neg c => .tup [.str "not", enc c]
  | .many b cs => .tup (.str (if b = true then "and" else "or") :: encs cs)
def encs : List Cond → List W
  | [] => []
  | c :: r => enc c :: encs r
end
theorem encs_map : ∀ cs : List Cond, encs cs = cs.map enc
  | [] => rfl
  | c :: r => by unfold encs; rw [encs_map r]; rfl
def seenOf (l : Str) (n : Int) : Int := match lookTurn l with
  | some t => if l = "all" then n else n % t
  | none => n
def fitsR (v : Int) (rs : List (Int × Int)) : Bool := rs.any fun r => decide (r.1 ≤ v) && decide (v ≤ r.2)
mutual
def evalC (n : Int) : Cond → Bool
  | .look l rs => fitsR (seenOf l n) rs
  | .neg c => !evalC n c
  | .many b cs => if b = true then evalAll n cs else evalAny n cs
def evalAll (n : Int) : List Cond → Bool
  | [] => true
  | c :: r => evalC n c && evalAll n r
def evalAny (n : Int) : List Cond → Bool
  | [] => false
  | c :: r => evalC n c || evalAny n r
end
theorem evalAll_map (n : Int) : ∀ cs : List Cond, evalAll n cs = (cs.map (evalC n)).all id
  | [] => rfl
  | c :: r => by unfold evalAll; rw [evalAll_map n r]; rfl
theorem evalAny_map (n : Int) : ∀ cs : List Cond, evalAny n cs = (cs.map (evalC n)).any id
  | [] => rfl
  | c :: r => by unfold evalAny; rw [evalAny_map n r]; rfl
/-- ranges in order -/
def rsOk (most : Int) : Int → List (Int × Int) → Prop
  | _, [] => True
  | ahead, (a, b) :: r => ahead < a ∧ a ≤ b ∧ b ≤ most ∧ rsOk most b r
/-- a good condition of at most so deep -/
def okC : Nat → Cond → Prop
  | 0, _ => False
  | d + 1, .look l rs => ∃ most, lookTop l = some most ∧ 1 ≤ rs.length ∧ rs.length ≤ 6 ∧ rsOk most (-1) rs
  | d + 1, .neg c => okC d c
  | d + 1, .many _ cs => 2 ≤ cs.length ∧ cs.length ≤ 6 ∧ ∀ c ∈ cs, okC d c
theorem areRs_dec {most : Int} : ∀ {l : List W} {ahead : Int}, areRs most ahead l = true → ∃ rs, l = rs.map encR ∧ rsOk most ahead rs
  | [], _, _ => ⟨[], rfl, trivial⟩
  | w :: r, ahead, h => by
    rcases Classical.em (∃ a b, w = .tup [a, b]) with ⟨a, b, rfl⟩ | hn
    · unfold areRs at h
      simp only [Bool.and_eq_true] at h
      obtain ⟨h1, h2, h3⟩ := h
      obtain ⟨i, rfl⟩ := isNum_int h1
      obtain ⟨j, rfl⟩ := isNum_int h2
      obtain ⟨rs, rfl, h4⟩ := areRs_dec h3
      simp only [isNum, toI, Bool.and_eq_true, decide_eq_true_eq] at h1 h2
      exact ⟨(i, j) :: rs, rfl, by omega, of_decide_eq_true h2.1, h2.2, h4⟩
    · rw [areRs_not (fun a b e => hn ⟨a, b, e⟩)] at h; cases h
theorem areRanges_dec {most : Int} {w : W} (h : areRanges most w = true) : ∃ rs, w = .tup (rs.map encR) ∧ 1 ≤ rs.length ∧ rs.length ≤ 6 ∧ rsOk most (-1) rs := by
  cases w <;> try cases h
  rename_i l
  unfold areRanges at h
  simp only [Bool.and_eq_true, decide_eq_true_eq] at h
  obtain ⟨rs, rfl, h4⟩ := areRs_dec h.2
  simp at h
  exact ⟨rs, rfl, by omega, by omega, h4⟩
theorem decs {d : Nat} (ih : ∀ w, 1 ≤ partsW d w → ∃ c, w = enc c ∧ okC d c) : ∀ l : List W, 0 ∉ l.map (partsW d) → ∃ cs, l = encs cs ∧ cs.length = l.length ∧ ∀ c ∈ cs, okC d c
  | [], _ => ⟨[], rfl, rfl, by simp⟩
  | w :: r, h => by
    simp only [List.map_cons, List.mem_cons, not_or] at h
    obtain ⟨c, rfl, h1⟩ := ih w (by omega)
    obtain ⟨cs, rfl, h2, h3⟩ := decs ih r h.2
    exact ⟨c :: cs, rfl, by simp [h2], by simpa using ⟨h1, h3⟩⟩
theorem dec_ok : ∀ (d : Nat) (w : W), 1 ≤ partsW d w → ∃ c, w = enc c ∧ okC d c
  | 0, w, h => by rw [partsW_0] at h; omega
  | d + 1, w, h => by
    unfold partsW at h
    split at h
    · rename_i n' x a r heq
      cases heq
      by_cases hi : x = "in"
      · rw [if_pos hi] at h
        subst hi
        unfold lookParts at h
        split at h
        · rename_i l' y g heq
          cases heq
          cases e : lookTop y with
          | none => rw [e] at h; simp at h
          | some most =>
            rw [e] at h
            simp only [] at h
            by_cases hg : areRanges most g = true
            · obtain ⟨rs, rfl, h1, h2, h3⟩ := areRanges_dec hg
              exact ⟨.look y rs, rfl, most, e, h1, h2, h3⟩
            · rw [if_neg hg] at h; omega
        · omega
      · rw [if_neg hi] at h
        by_cases hg : goodHead x (r.length + 2) = true
        · rw [if_pos hg] at h
          by_cases h0 : 0 ∈ (a :: r).map (partsW d)
          · rw [if_pos h0] at h; omega
          · obtain ⟨cs, e1, e2, e3⟩ := decs (dec_ok d) (a :: r) h0
            unfold goodHead at hg
            simp only [Bool.or_eq_true, Bool.and_eq_true, decide_eq_true_eq] at hg
            simp only [List.length_cons] at e2
            rcases hg with ⟨hx, h3, h7⟩ | ⟨rfl, h2⟩
            · refine ⟨.many (decide (x = "and")) cs, ?_, by omega, by omega, e3⟩
              unfold enc
              rw [← e1]
              rcases hx with rfl | rfl
              · simp
              · rfl
            · have : cs.length = 1 := by omega
              match cs, this, e1, e3 with
              | [c], _, e1, e3 =>
                unfold encs encs at e1
                rw [e1]
                exact ⟨.neg c, by simp [enc], e3 c (by simp)⟩
        · rw [if_neg hg] at h; omega
    · omega
end FW

namespace FW
open PySem PySem.Spec L2
local macro_rules | `(tactic| walk_at "fw") => `(tactic| simp only [startW, endW, sRet, sRetN, sNext, sSeq, sDrop, sIf, sAsg, sRaise, sPar, sBreak, sCont, gSet, gTupN, gsetN, gSub, oSet, wC, wVar, getS0, getSs, wOp, wUn, wAnd, wOr, wNot, wTru, wTAnd, wTOr, wTNot, wTB, wChain, wIf, wCB, wCall, wNil, wCons, wTup, wLst, wLstM, wDct, wSl, wP, wNoP, wBM, wIt, wRange1, wRange2, wLc, wLcM, sFor, Tgt.wg, Tgt.slots, wipeW,
  List.map_cons, List.map_nil, List.length_cons, List.length_nil, List.replicate, List.append_nil, List.nil_append, List.cons_append, List.getElem?_cons_zero, List.getElem?_cons_succ, List.set_cons_zero, List.set_cons_succ, if_true, true_and, and_true])
def c_fits (k : Nat) : Con := fun ws m R _ => match ws with
  | [w, .int n] => ∃ c, w = enc c ∧ okC k c ∧ R (.bl (evalC n c)) m
  | _ => False
theorem boolsW_of {α : Type} {f : α → Bool} : ∀ l : List α, boolsW (l.map fun w => W.bl (f w)) = some (l.map f)
  | [] => rfl
  | a :: r => by simp [boolsW, boolsW_of r]
theorem lc_enc {α : Type} {still : Sto → Prop} {gt : WG} {te : WE} {d0 : List (Option W)} {R : List W → Sto → Prop} {m : Sto} (e : α → W) (f : α → W) (hs : still m) : ∀ (xs : List α) (acc : List W),
    acc.length + xs.length ≤ sizeLine → (∀ x ∈ xs, ∀ K : WR, K (f x) m → gt (e x) d0 m (fun d1 m1 => te d1 m1 K noZ)) → R (acc ++ xs.map f) m → lcGo still gt wYes te d0 R (xs.map e) acc m
  | [], acc, _, _, h => ⟨hs, by simpa using h⟩
  | w :: ws, acc, hl, hf, h => by
    rw [List.map_cons]
    unfold lcGo wYes
    simp only [if_true]
    refine ⟨hs, hf w (by simp) _ ⟨by simp at hl; omega, lc_enc e f hs ws (acc ++ [f w]) (by simp at hl ⊢; omega) (fun u hu => hf u (List.mem_cons_of_mem _ hu)) ?_⟩⟩
    simpa using h
theorem six_size {n : Nat} (h : n ≤ 6) : 0 + n ≤ sizeLine := by
  have : (2 : Nat) ^ 24 = 16777216 := by decide
  unfold sizeLine
  omega
theorem turn_ok {l : Str} {most : Int} (h : lookTop l = some most) : ∃ t, lookTurn l = some t ∧ 0 < t ∧ t < 2 ^ 64 := by
  unfold lookTop at h
  unfold lookTurn
  by_cases h1 : l = "all"
  · exact ⟨1, by simp [h1], by decide, by decide⟩
  rw [if_neg h1] at h ⊢
  by_cases h2 : l = "last1"
  · exact ⟨10, by simp [h2], by decide, by decide⟩
  rw [if_neg h2] at h ⊢
  by_cases h3 : l = "last2"
  · exact ⟨100, by simp [h3], by decide, by decide⟩
  rw [if_neg h3] at h ⊢
  by_cases h4 : l = "last3"
  · exact ⟨1000, by simp [h4], by decide, by decide⟩
  rw [if_neg h4] at h; cases h
theorem b_fits (k : Nat) : ∀ ws m R Z, ws.length = 2 → c_fits (k + 1) ws m R Z → t_fits (c_fits k) c_last_of (endW R Z) (startW N_fits ws) m := by
  intro ws m R Z hl h
  obtain ⟨a, b, rfl⟩ := two hl
  cases b <;> try exact h.elim
  rename_i n
  obtain ⟨c, rfl, hok, hR⟩ := h
  unfold t_fits N_fits
  have e0 : ∀ w, startW ["condition", "number", "word", "rows", "found", "part", "low", "high"] [w, W.int n] = [some w, some (W.int n), none, none, none, none, none, none] := fun _ => rfl
  rw [e0]
  cases c with
  | look l rs =>
    obtain ⟨most, h1, h2, h3, h4⟩ := hok
    obtain ⟨t, ht, t1, t2⟩ := turn_ok h1
    unfold evalC at hR
    unfold enc
    refine q_asg (.str "in") m (fun K hK => ?_) ?_
    · walk_at "fw"
      simp only [oIx, seqOf, atI_0]
      exact hK
    show sSeq _ _ _ [some (.tup [.str "in", .str l, .tup (rs.map encR)]), some (W.int n), some (.str "in"), none, none, none, none, none] m
    refine q_yes m (fun K hK => ?_) ?_
    · walk_at "fw"
      simpa [oEq, scalW] using hK
    refine q_asg (.int (seenOf l n)) m (fun K hK => ?_) ?_
    · walk_at "fw"
      unfold seenOf at hK
      rw [ht] at hK
      simp only [oIx, seqOf, atI_1, oEq, scalW, dTURNS, dctOf, val_TURNS, ht, Option.map, c_last_of, Bool.xor_false]
      by_cases hl : l = "all"
      · simpa [hl] using hK
      · simp only [hl, decide_false, Bool.false_eq_true, if_false] at hK ⊢
        exact ⟨t1, t2, hK⟩
    show sRet _ _ [some (.tup [.str "in", .str l, .tup (rs.map encR)]), some (W.int n), some (.str "in"), none, some (.int (seenOf l n)), none, none, none] m
    refine r_ret _ m (fun K hK => ?_) hR
    walk_at "fw"
    simp only [oIx, seqOf, atI_2]
    refine lc_enc encR (fun r => W.bl (decide (r.1 ≤ seenOf l n) && decide (seenOf l n ≤ r.2))) trivial rs [] (six_size h3) (fun r hr K hK => ?_) ?_
    · walk_at "fw"
      simp only [encR]
      walk_at "fw"
      simp only [oLe]
      cases e : decide (r.1 ≤ seenOf l n) <;> simp only [e] at hK ⊢ <;> simpa using hK
    · simp only [List.nil_append, fAny, lblOf, lstOf, boolsW_of]
      unfold fitsR at hK
      simpa using hK
  | neg c =>
    unfold evalC at hR
    unfold enc
    have hc : okC k c := hok
    refine q_asg (.str "not") m (fun K hK => ?_) ?_
    · walk_at "fw"
      simp only [oIx, seqOf, atI_0]
      exact hK
    show sSeq _ _ _ [some (.tup [.str "not", enc c]), some (W.int n), some (.str "not"), none, none, none, none, none] m
    refine q_skip m (fun K hK => ?_) ?_
    · walk_at "fw"
      simpa [oEq, scalW] using hK
    refine q_yes m (fun K hK => ?_) ?_
    · walk_at "fw"
      simpa [oEq, scalW] using hK
    refine r_ret _ m (fun K hK => ?_) hR
    walk_at "fw"
    simp only [oIx, seqOf, atI_1, c_fits]
    exact ⟨c, rfl, hc, hK⟩
  | many b cs =>
    obtain ⟨h1, h2, h3⟩ := hok
    unfold evalC at hR
    unfold enc
    rw [encs_map]
    have hw : ∃ w : Str, (if b = true then (Str.ofString "and") else "or") = w := ⟨_, rfl⟩
    obtain ⟨w, hw⟩ := hw
    rw [hw]
    refine q_asg (.str w) m (fun K hK => ?_) ?_
    · walk_at "fw"
      simp only [oIx, seqOf, atI_0]
      exact hK
    show sSeq _ _ _ [some (.tup (.str w :: cs.map enc)), some (W.int n), some (.str w), none, none, none, none, none] m
    refine q_skip m (fun K hK => ?_) ?_
    · walk_at "fw"
      cases b <;> (subst hw; simpa [oEq, scalW] using hK)
    refine q_skip m (fun K hK => ?_) ?_
    · walk_at "fw"
      cases b <;> (subst hw; simpa [oEq, scalW] using hK)
    refine q_asg (.lst (cs.map fun c => W.bl (evalC n c))) m (fun K hK => ?_) ?_
    · walk_at "fw"
      simp only [oSl, cutW_1]
      refine lc_enc enc (fun c => W.bl (evalC n c)) trivial cs [] (six_size h2) (fun c hc K hK => ?_) hK
      walk_at "fw"
      exact ⟨c, rfl, h3 c hc, hK⟩
    refine r_ret _ m (fun K hK => ?_) hR
    walk_at "fw"
    simp only [fAll, fAny, lblOf, lstOf, boolsW_of]
    rw [evalAll_map, evalAny_map] at hK
    cases b <;> (subst hw; simpa [oEq, scalW] using hK)
end FW

namespace FW
open PySem PySem.Spec L2
local macro_rules | `(tactic| walk_at "fw") => `(tactic| simp only [startW, endW, sRet, sRetN, sNext, sSeq, sDrop, sIf, sAsg, sRaise, sPar, sBreak, sCont, gSet, gTupN, gsetN, gSub, oSet, wC, wVar, getS0, getSs, wOp, wUn, wAnd, wOr, wNot, wTru, wTAnd, wTOr, wTNot, wTB, wChain, wIf, wCB, wCall, wNil, wCons, wTup, wLst, wLstM, wDct, wSl, wP, wNoP, wBM, wIt, wRange1, wRange2, wLc, wLcM, sFor, Tgt.wg, Tgt.slots, wipeW,
  List.map_cons, List.map_nil, List.length_cons, List.length_nil, List.replicate, List.append_nil, List.nil_append, List.cons_append, List.getElem?_cons_zero, List.getElem?_cons_succ, List.set_cons_zero, List.set_cons_succ, if_true, true_and, and_true])
def DiceAt (m : Sto) (p : Nat) : Prop := ∃ c k : Int, m[p]? = some (.lst [.int c, .int k])
structure Ext (p : Nat) (m m' : Sto) : Prop where
  dice : DiceAt m' p
  len : m.length ≤ m'.length
  same : ∀ n, n < m.length → n ≠ p → m'[n]? = m[n]?
theorem Ext.refl {p : Nat} {m : Sto} (h : DiceAt m p) : Ext p m m := ⟨h, Nat.le_refl _, fun _ _ _ => rfl⟩
theorem Ext.trans {p : Nat} {m m1 m2 : Sto} (a : Ext p m m1) (b : Ext p m1 m2) : Ext p m m2 :=
  ⟨b.dice, Nat.le_trans a.len b.len, fun n h1 h2 => (b.same n (Nat.lt_of_lt_of_le h1 a.len) h2).trans (a.same n h1 h2)⟩
theorem DiceAt.lt {m : Sto} {p : Nat} (h : DiceAt m p) : p < m.length := by
  obtain ⟨c, k, e⟩ := h
  exact (List.getElem?_eq_some_iff.mp e).1
theorem Ext.keep {p n : Nat} {m m' : Sto} (a : Ext p m m') (h : DiceAt m n) : DiceAt m' n := by
  by_cases e : n = p
  · rw [e]; exact a.dice
  · have := a.same n h.lt e
    unfold DiceAt
    rw [this]; exact h
theorem Ext.set {p : Nat} {m : Sto} (h : DiceAt m p) (c k : Int) : Ext p m (m.set p (.lst [.int c, .int k])) :=
  ⟨⟨c, k, by rw [List.getElem?_set_self h.lt]⟩, by simp, fun n _ h2 => by rw [List.getElem?_set_ne (Ne.symm h2)]⟩
theorem Ext.push {p : Nat} {m : Sto} (h : DiceAt m p) (o : Ob) : Ext p m (m ++ [o]) :=
  ⟨by obtain ⟨c, k, e⟩ := h; exact ⟨c, k, by rw [List.getElem?_append_left (List.getElem?_eq_some_iff.mp e).1]; exact e⟩, by simp, fun n h1 _ => by rw [List.getElem?_append_left h1]⟩
/-- a list of one's own changes -/
theorem Ext.own {p q : Nat} {m m' : Sto} {o : Ob} (a : Ext p m m') (h : m.length ≤ q) (hp : DiceAt m p) : Ext p m (m'.set q o) := by
  have hpq : q ≠ p := fun e => by have := hp.lt; omega
  refine ⟨?_, by simpa using a.len, fun n h1 h2 => ?_⟩
  · obtain ⟨c, k, e⟩ := a.dice
    exact ⟨c, k, by rw [List.getElem?_set_ne hpq]; exact e⟩
  · rw [List.getElem?_set_ne (by omega)]; exact a.same n h1 h2
theorem shaped_list {ds : List PyData} (h : ∀ d ∈ ds, d.canLay0 = true ∧ d.depth ≤ 60) : SeqAt.shaped (.list ds) = true := by
  have h1 : ∀ l : List PyData, (∀ d ∈ l, d.canLay0 = true ∧ d.depth ≤ 60) → PyData.canLayAll0 l = true ∧ PyData.depthAll l ≤ 60 := by
    intro l
    induction l with
    | nil => intro _; simp [PyData.canLayAll0, PyData.depthAll]
    | cons a r ih =>
      intro h
      have h1 := h a (by simp)
      have h2 := ih fun d hd => h d (List.mem_cons_of_mem _ hd)
      simp only [PyData.canLayAll0, PyData.depthAll, h1.1, h2.1, Bool.and_self, true_and]
      omega
  have h2 := h1 ds h
  have h3 : PyData.depth (.list ds) ≤ 64 := by
    simp only [PyData.depth]
    omega
  show (PyData.canLay0 (.list ds) && decide (PyData.depth (.list ds) ≤ 64)) = true
  rw [Bool.and_eq_true]
  exact ⟨by simp only [PyData.canLay0]; exact h2.1, decide_eq_true h3⟩
theorem eqv_nil (ds : List PyData) : PyData.eqv (.list ds) (.list []) = ds.isEmpty := by
  cases ds <;> simp [PyData.eqv, PyData.eqvAll]
def c_law_cell : Con := fun ws m R _ => match ws with
  | [s, .int k] => ∃ ns : List Int, (s = .fzl (ns.map W.int) ∨ s = .lst (ns.map W.int)) ∧ ns.length ≤ 1000 ∧ 0 ≤ k ∧ ∀ r, R (.int r) m
  | _ => False
theorem snaps_ints : ∀ ns : List Int, snaps (ns.map W.int) = some (ns.map PyData.int)
  | [] => rfl
  | a :: r => by
    rw [List.map_cons]
    unfold snaps snap0
    rw [snaps_ints r]
    rfl
theorem mod_lt {k : Int} {n : Nat} (hk : 0 ≤ k) (hn : 0 < n) : ∃ i : Nat, k % (n : Int) = i ∧ i < n := by
  have h1 := Int.emod_nonneg k (show (n : Int) ≠ 0 by omega)
  have h2 := Int.emod_lt_of_pos k (show (0 : Int) < n by omega)
  exact ⟨(k % (n : Int)).toNat, by omega, by omega⟩
theorem small64 {n : Nat} (h : n ≤ 1000) : (n : Int) < 2 ^ 64 := by
  have : (2 : Int) ^ 64 = 18446744073709551616 := by decide
  omega
theorem b_law_cell : ∀ ws m R Z, ws.length = 2 → c_law_cell ws m R Z → t_law_cell (endW R Z) (startW N_law_cell ws) m := by
  intro ws m R Z hl h
  obtain ⟨a, b, rfl⟩ := two hl
  cases b <;> try exact h.elim
  rename_i k
  obtain ⟨ns, hs, hl, hk, hR⟩ := h
  unfold t_law_cell N_law_cell
  have e1 : snap m a = some (.list (ns.map PyData.int)) := by
    rcases hs with rfl | rfl
    · show snap0 _ = _
      unfold snap0; rw [snaps_ints]
    · show snap0 _ = _
      unfold snap0; rw [snaps_ints]
  have e2 : scalW a (.lst []) = none := by rcases hs with rfl | rfl <;> rfl
  have e3 : seqOf m a = some (ns.map W.int) := by rcases hs with rfl | rfl <;> rfl
  have e4 : lenW m a = some ns.length := by rcases hs with rfl | rfl <;> simp [lenW, seqOf, lstOf]
  walk_at "fw"
  refine ⟨by decide, ?_⟩
  have e5 : snap m (.lst []) = some (.list []) := rfl
  simp only [oEq, e2, e1, e5]
  refine ⟨shaped_list (by intro d hd; obtain ⟨i, _, rfl⟩ := List.mem_map.mp hd; simp [PyData.canLay0, PyData.depth]), rfl, ?_⟩
  rw [eqv_nil]
  cases ns with
  | nil =>
    simp only [List.map_nil, List.isEmpty_nil, Bool.true_xor, Bool.not_false, if_true, oMul]
    exact ⟨.inl (.inr ⟨by decide, by decide⟩), hR _⟩
  | cons i r =>
    obtain ⟨j, hj, hj2⟩ := mod_lt (n := (i :: r).length) hk (by simp)
    simp only [List.map_cons, List.isEmpty_cons, Bool.false_xor, Bool.false_eq_true, if_false, fLen, e4, oMod, oDiv, oMul]
    refine ⟨by simp only [List.length_cons]; omega, ?_⟩
    have hne : ∀ z, a ≠ .str z := by rcases hs with rfl | rfl <;> (intro z h; cases h)
    have hx : ∃ w, ((i :: r).map W.int)[j]? = some (.int w) := ⟨(i :: r)[j], by rw [List.getElem?_map, List.getElem?_eq_getElem hj2]; rfl⟩
    obtain ⟨w, hw⟩ := hx
    have ix : ∀ R' : WR, R' (.int w) m → oIx a (.int (k % ((i :: r).length : Int))) m R' := by
      intro R' h
      rw [hj]
      unfold oIx
      have e6 : atI ((i :: r).map W.int) (j : Int) = some (.int w) := by rw [atI_nat (by simpa using hj2)]; exact hw
      rcases hs with rfl | rfl
      · simp only [e3, e6]; exact h
      · simp only [e3, e6]; exact h
    refine ix _ ?_
    simp only [e4]
    refine ⟨⟨by simp only [List.length_cons]; omega, log2_small (by simp only [List.length_cons]; omega) (small64 hl)⟩, .inl (.inr ⟨by decide, by decide⟩), hR _⟩
def c_law_drawn : Con := fun ws m R _ => match ws with
  | [.int c, .int k] => ∀ r, R (.int r) m
  | _ => False
theorem log2_lt {t : Int} {n : Nat} (h1 : 0 ≤ t) (h2 : t < 2 ^ n) (hn : 0 < n) : t.natAbs.log2 < n := by
  by_cases h : t.natAbs = 0
  · rw [h]; simpa using hn
  · have : t.natAbs < 2 ^ n := by
      have : ((2 ^ n : Nat) : Int) = 2 ^ n := by simp
      omega
    exact (Nat.log2_lt h).mpr this
theorem mul_ok {a b : Int} {n : Nat} (hn : 0 < n) (hn2 : n ≤ 1000) (h1 : 0 ≤ a) (h2 : a < 2 ^ n) (h3 : 0 ≤ b) (h4 : b < 2 ^ n) : MulOk a b := .inr (by
  have := log2_lt h1 h2 hn
  have := log2_lt h3 h4 hn
  unfold CMulW
  omega)
theorem b_law_drawn : ∀ ws m R Z, ws.length = 2 → c_law_drawn ws m R Z → t_law_drawn (endW R Z) (startW N_law_drawn ws) m := by
  intro ws m R Z hl h
  obtain ⟨a, b, rfl⟩ := two hl
  cases a <;> try exact h.elim
  cases b <;> try exact h.elim
  rename_i c k
  have hR : ∀ r, R (.int r) m := h
  unfold t_law_drawn N_law_drawn
  walk_at "fw"
  simp only [oMul, oAdd, oMod, oDiv]
  refine ⟨.inl (.inr ⟨by decide, by decide⟩), .inl (.inr ⟨by decide, by decide⟩), by decide, ?_⟩
  generalize hm : (c * 6364136223846793005 + (k + 1) * 1442695040888963407) % 340282366920938463463374607431768211507 = x
  have hx : 0 ≤ x ∧ x < 340282366920938463463374607431768211507 := by omega
  have p129 : (2 : Int) ^ 129 = 680564733841876926926749214863536422912 := by decide
  refine ⟨mul_ok (n := 129) (by decide) (by decide) hx.1 (by omega) hx.1 (by omega), by decide, by decide, ⟨by decide, by decide⟩, ?_⟩
  generalize hy : x * x % 340282366920938463463374607431768211297 = y
  have hy' : 0 ≤ y ∧ y < 340282366920938463463374607431768211297 := by
    subst hy
    exact ⟨Int.emod_nonneg _ (by decide), Int.emod_lt_of_pos _ (by decide)⟩
  refine ⟨.inl (.inl ⟨by omega, by omega⟩), ?_⟩
  generalize hz : (y % 18446744073709551557 + 1) * (y / 18446744073709551557 + 1) = z
  refine ⟨?_, by decide, hR _⟩
  have h1 : 0 ≤ y % 18446744073709551557 + 1 ∧ y % 18446744073709551557 + 1 ≤ 18446744073709551557 := by omega
  have h2 : 0 ≤ y / 18446744073709551557 + 1 ∧ y / 18446744073709551557 + 1 ≤ 18446744073709551616 * 2 := by omega
  have h3 : 0 ≤ z := by subst hz; exact Int.mul_nonneg h1.1 h2.1
  have h4 : z ≤ 18446744073709551557 * (18446744073709551616 * 2) := by subst hz; exact Int.mul_le_mul h1.2 h2.2 h2.1 (by decide)
  exact mul_ok (n := 129) (by decide) (by decide) h3 (by omega) hy'.1 (by omega)
def c_law_roll : Con := fun ws m R _ => match ws with
  | [.ref p, .int many] => 0 < many ∧ many < 2 ^ 64 ∧ DiceAt m p ∧ ∀ r m', 0 ≤ r → r < many → Ext p m m' → R (.int r) m'
  | _ => False
theorem b_law_roll : ∀ ws m R Z, ws.length = 2 → c_law_roll ws m R Z → t_law_roll c_law_drawn (endW R Z) (startW N_law_roll ws) m := by
  intro ws m R Z hl h
  obtain ⟨a, b, rfl⟩ := two hl
  cases a <;> try exact h.elim
  cases b <;> try exact h.elim
  rename_i p many
  obtain ⟨h1, h2, hd, hR⟩ := h
  have hd' := hd
  obtain ⟨c, k, e⟩ := hd
  have mp : ∀ x : Int, 0 ≤ x % many ∧ x % many < many := fun x => ⟨Int.emod_nonneg _ (by omega), Int.emod_lt_of_pos _ h1⟩
  unfold t_law_roll N_law_roll
  walk_at "fw"
  have i0 : ixN 2 0 = some 0 := rfl
  have i1 : ixN 2 1 = some 1 := rfl
  simp only [oIx, seqOf, lstOf, e, atI_0, atI_1, oPow, oGe, oLe, oMod, oDiv, oAdd, List.length_cons, List.length_nil, i0, i1]
  refine ⟨⟨by decide, by decide, by decide⟩, ?_⟩
  by_cases hb : (10 : Int) ^ (18 : Int).toNat ≤ c
  · simp only [hb, decide_true, if_true]
    refine ⟨h1, ⟨h1, log2_small h1 h2⟩, ?_⟩
    exact hR _ _ (mp _).1 (mp _).2 (Ext.set hd' _ _)
  · simp only [hb, decide_false, Bool.false_eq_true, if_false]
    have e2 : (m.set p (.lst [.int c, .int (k + 1)]))[p]? = some (.lst [.int c, .int (k + 1)]) := by rw [List.getElem?_set_self hd'.lt]
    simp only [List.set_cons_succ, List.set_cons_zero, e2, atI_0, atI_1, c_law_drawn]
    intro r
    exact ⟨⟨by decide, by decide⟩, h1, hR _ _ (mp _).1 (mp _).2 (Ext.set hd' _ _)⟩
end FW

namespace FW
open PySem PySem.Spec L2
local macro_rules | `(tactic| walk_at "fw") => `(tactic| simp only [startW, endW, sRet, sRetN, sNext, sSeq, sDrop, sIf, sAsg, sRaise, sPar, sBreak, sCont, gSet, gTupN, gsetN, gSub, oSet, wC, wVar, getS0, getSs, wOp, wUn, wAnd, wOr, wNot, wTru, wTAnd, wTOr, wTNot, wTB, wChain, wIf, wCB, wCall, wNil, wCons, wTup, wLst, wLstM, wDct, wSl, wP, wNoP, wBM, wIt, wRange1, wRange2, wLc, wLcM, sFor, Tgt.wg, Tgt.slots, wipeW,
  List.map_cons, List.map_nil, List.length_cons, List.length_nil, List.replicate, List.append_nil, List.nil_append, List.cons_append, List.getElem?_cons_zero, List.getElem?_cons_succ, List.set_cons_zero, List.set_cons_succ, if_true, true_and, and_true])
def Script (s : W) : Prop := ∃ ns : List Int, (s = .fzl (ns.map W.int) ∨ s = .lst (ns.map W.int)) ∧ ns.length ≤ 1000
def c_law_rounds : Con := fun ws m R _ => match ws with
  | [s, .int most] => Script s ∧ 0 ≤ most ∧ most ≤ 1000 ∧ ∀ l m', l.length ≤ 1000 → (∀ w ∈ l, ∃ p, w = .ref p ∧ DiceAt m' p) → m.length ≤ m'.length → (∀ n, n < m.length → m'[n]? = m[n]?) → R (.lst l) m'
  | _ => False
theorem Script.len {s : W} {m : Sto} (h : Script s) : ∃ n, lenW m s = some n ∧ n ≤ 1000 := by
  obtain ⟨ns, h1, h2⟩ := h
  refine ⟨ns.length, ?_, h2⟩
  rcases h1 with rfl | rfl <;> simp [lenW, seqOf, lstOf]
theorem b_law_rounds : ∀ ws m R Z, ws.length = 2 → c_law_rounds ws m R Z → t_law_rounds c_law_cell (endW R Z) (startW N_law_rounds ws) m := by
  intro ws m R Z hl h
  obtain ⟨a, b, rfl⟩ := two hl
  cases b <;> try exact h.elim
  rename_i most
  obtain ⟨hs, h0, h1, hR⟩ := h
  obtain ⟨n, hn, hn2⟩ := hs.len (m := m)
  unfold t_law_rounds N_law_rounds
  walk_at "fw"
  simp only [fLen, hn, fMin, fMax]
  generalize hj : (if (if (n : Int) < most then (n : Int) else most) > 1 then (if (n : Int) < most then (n : Int) else most) else 1) = j
  have hj2 : 0 ≤ j ∧ j ≤ 1000 := by subst hj; repeat' split <;> omega
  have p62 : (2 : Int) ^ 62 = 4611686018427387904 := by decide
  refine ⟨by omega, by omega, ?_⟩
  refine lc_inv (I := fun ws acc m' => acc.length + ws.length ≤ 1000 ∧ (∀ w ∈ ws, ∃ j : Int, w = .int j ∧ 0 ≤ j) ∧ (∀ w ∈ acc, ∃ p, w = .ref p ∧ DiceAt m' p) ∧ m.length ≤ m'.length ∧ ∀ n, n < m.length → m'[n]? = m[n]?) ?_ ?_ _ [] m ⟨?_, ?_, by simp, Nat.le_refl _, fun _ _ => rfl⟩
  · rintro w ws acc m' ⟨i1, i2, i3, i4, i5⟩
    obtain ⟨j, rfl, hj⟩ := i2 w (by simp)
    refine ⟨trivial, by simp only [List.length_cons] at i1; unfold sizeLine; omega, fun K hK => ?_⟩
    walk_at "fw"
    obtain ⟨ns, hns, hns2⟩ := hs
    refine ⟨ns, hns, hns2, hj, fun r => ⟨by decide, hK _ _ ⟨?_, fun w hw => i2 w (List.mem_cons_of_mem _ hw), ?_, ?_, ?_⟩⟩⟩
    · simp at i1 ⊢; omega
    · intro w hw
      rcases List.mem_append.mp hw with hw | hw
      · obtain ⟨p, rfl, c, k, e⟩ := i3 w hw
        exact ⟨p, rfl, c, k, by rw [List.getElem?_append_left (List.getElem?_eq_some_iff.mp e).1]; exact e⟩
      · simp at hw; subst hw
        exact ⟨_, rfl, r, 0, by simp⟩
    · simp; omega
    · intro n hn
      rw [List.getElem?_append_left (by omega)]
      exact i5 n hn
  · rintro acc m' ⟨i1, i2, i3, i4, i5⟩
    exact ⟨trivial, hR _ _ (by simpa using i1) i3 i4 i5⟩
  · simp [rangeW]; omega
  · intro w hw
    simp [rangeW] at hw
    obtain ⟨i, hi, rfl⟩ := hw
    exact ⟨_, rfl, by omega⟩
def lastHi : Int → List (Int × Int) → Int
  | a, [] => a
  | _, (_, y) :: r => lastHi y r
theorem rsOk_snoc {most x y : Int} : ∀ {rs : List (Int × Int)} {a : Int}, rsOk most a rs → lastHi a rs < x → x ≤ y → y ≤ most → rsOk most a (rs ++ [(x, y)]) ∧ lastHi a (rs ++ [(x, y)]) = y
  | [], a, _, h1, h2, h3 => ⟨⟨h1, h2, h3, trivial⟩, rfl⟩
  | (u, v) :: r, a, h, h1, h2, h3 => by
    obtain ⟨g1, g2, g3, g4⟩ := h
    obtain ⟨k1, k2⟩ := rsOk_snoc (rs := r) (a := v) g4 h1 h2 h3
    exact ⟨⟨g1, g2, g3, k1⟩, k2⟩
theorem areRs_enc {most : Int} : ∀ {rs : List (Int × Int)} {a : Int}, rsOk most a rs → areRs most a (rs.map encR) = true
  | [], _, _ => rfl
  | (u, v) :: r, a, h => by
    obtain ⟨g1, g2, g3, g4⟩ := h
    have ih := areRs_enc (rs := r) (a := v) g4
    rw [List.map_cons]
    show (isNum (a + 1) most (.int u) && (isNum u most (.int v) && areRs most v (r.map encR))) = true
    rw [ih]
    simp only [isNum, Bool.and_true, Bool.and_eq_true, decide_eq_true_eq]
    refine ⟨⟨?_, ?_⟩, ?_, ?_⟩ <;> omega
theorem rsOk_mono {p q : Int} (h : p ≤ q) : ∀ {rs : List (Int × Int)} {a : Int}, rsOk p a rs → rsOk q a rs
  | [], _, _ => trivial
  | (u, v) :: r, a, ⟨g1, g2, g3, g4⟩ => ⟨g1, g2, by omega, rsOk_mono h g4⟩
def encD (r : Int × Int) : PyData := .tuple [.int r.1, .int r.2]
theorem snaps_enc : ∀ rs : List (Int × Int), snaps (rs.map encR) = some (rs.map encD)
  | [] => rfl
  | a :: r => by
    rw [List.map_cons]
    unfold snaps
    rw [snaps_enc r]
    rfl
theorem shaped_enc (rs : List (Int × Int)) : SeqAt.shaped (.list (rs.map encD)) = true :=
  shaped_list (by intro d hd; obtain ⟨i, _, rfl⟩ := List.mem_map.mp hd; simp [encD, PyData.canLay0, PyData.canLayAll0, PyData.depth, PyData.depthAll])
def c_law_ranges : Con := fun ws m R _ => match ws with
  | [.ref p, .int most] => 0 ≤ most ∧ most ≤ 1000000 ∧ DiceAt m p ∧ ∀ rs m', Ext p m m' → 1 ≤ rs.length → rs.length ≤ 3 → rsOk most (-1) rs → R (.tup (rs.map encR)) m'
  | _ => False
theorem pick4 {r : Int} (h0 : 0 ≤ r) (h1 : r < 4) (a b c d : W) : ∃ w, (w = a ∨ w = b ∨ w = c ∨ w = d) ∧ atI [a, b, c, d] r = some w := by
  have : r = 0 ∨ r = 1 ∨ r = 2 ∨ r = 3 := by omega
  rcases this with rfl | rfl | rfl | rfl
  · exact ⟨a, by simp, rfl⟩
  · exact ⟨b, by simp, rfl⟩
  · exact ⟨c, by simp, rfl⟩
  · exact ⟨d, by simp, rfl⟩
theorem b_law_ranges : ∀ ws m R Z, ws.length = 2 → c_law_ranges ws m R Z → t_law_ranges c_law_roll (endW R Z) (startW N_law_ranges ws) m := by
  intro ws m R Z hl h
  obtain ⟨a, b, rfl⟩ := two hl
  cases a <;> try exact h.elim
  cases b <;> try exact h.elim
  rename_i p most
  obtain ⟨h0, h1, hd, hR⟩ := h
  have p64 : (2 : Int) ^ 64 = 18446744073709551616 := by decide
  have p62 : (2 : Int) ^ 62 = 4611686018427387904 := by decide
  unfold t_law_ranges N_law_ranges
  show sSeq _ _ _ [some (W.ref p), some (W.int most), none, none, none, none, none, none] m
  -- the first row
  have first : ∀ (u : WS), (∀ m1 wide, 0 < wide → wide ≤ 1000001 → Ext p m m1 → m1[m.length]? = some (.lst []) → u (endW R Z) [some (W.ref p), some (W.int most), none, some (.ref m.length), some (.int (-1)), some (.int wide), none, none] m1) →
      sSeq (sPar [3, 4, 5] (wCons (wLstM wNil) (wCons (wUn oNeg (wC (.int 1))) (wCons (wOp oAdd (wC (.int 1)) (wOp oDiv (wVar 1) (wOp oIx (wLst (wCons (wC (.int 1)) (wCons (wC (.int 3)) (wCons (wC (.int 9)) (wCons (wC (.int 30)) wNil))))) (wCall 2 c_law_roll (wCons (wVar 0) (wCons (wC (.int 4)) wNil)))))) wNil)))) u (endW R Z) [some (W.ref p), some (W.int most), none, none, none, none, none, none] m := by
    intro u hu
    walk_at "fw"
    simp only [oNeg, c_law_roll]
    refine ⟨by decide, by decide, by decide, by decide, (Ext.push hd _).dice, fun r m1 r0 r4 x => ?_⟩
    obtain ⟨w, hw, e⟩ := pick4 r0 r4 (.int 1) (.int 3) (.int 9) (.int 30)
    have x2 := (Ext.push hd (.lst [])).trans x
    have e3 : m1[m.length]? = some (.lst []) := by
      rw [x.same m.length (by simp) (by have := hd.lt; omega)]; simp
    simp only [oIx, seqOf, lstOf, e]
    have hw' : ∃ i : Int, w = .int i ∧ 0 < i ∧ i ≤ 30 := by
      rcases hw with rfl | rfl | rfl | rfl <;> exact ⟨_, rfl, by decide, by decide⟩
    obtain ⟨i, rfl, i0, i1⟩ := hw'
    simp only [oDiv, oAdd]
    have q0 : 0 ≤ most / i := Int.ediv_nonneg h0 (by omega)
    have q1 : most / i ≤ most := Int.ediv_le_self _ h0
    exact ⟨⟨i0, log2_small i0 (by omega)⟩, hu m1 (1 + most / i) (by omega) (by omega) x2 e3⟩
  refine first _ fun m1 wide w0 w1 x1 e1 => ?_
  have fin : ∀ (T : EW) d m2 rs, T.rt = R → Ext p m m2 → getS d 3 = some (.ref m.length) → m2[m.length]? = some (.lst (rs.map encR)) → rsOk most (-1) rs → rs.length ≤ 3 →
      sRet (wIf (wTB (wOp (oEq true) (wVar 3) (wLst wNil))) (wCB fTuple (wCons (wVar 3) wNil)) (wTup (wCons (wTup (wCons (wC (.int 0)) (wCons (wC (.int 0)) wNil))) wNil))) T d m2 := by
    intro T d m2 rs hT x e3 e4 ok len
    walk_at "fw"
    have sc : scalW (.ref m.length) (.lst []) = none := rfl
    have sn : snap m2 (.ref m.length) = some (.list (rs.map encD)) := by
      unfold snap
      simp only [e4, snaps_enc]
    have sn2 : snap m2 (.lst []) = some (.list []) := rfl
    have sq : seqOf m2 (.ref m.length) = some (rs.map encR) := by
      unfold seqOf lstOf
      simp only [e4]
    simp only [e3, oEq, sc, sn, sn2, eqv_nil, fTuple, sq]
    refine ⟨by decide, shaped_enc rs, rfl, ?_⟩
    rw [hT]
    cases rs with
    | nil => exact ⟨by decide, by decide, hR [(0, 0)] m2 x (by decide) (by decide) ⟨by decide, by decide, h0, trivial⟩⟩
    | cons r rs => exact hR (r :: rs) m2 x (by simp) len ok
  walk_at "fw"
  simp only [c_law_roll, oAdd]
  refine ⟨by decide, by decide, x1.dice, fun r m2 r0 r3 x2 => ?_⟩
  refine ⟨by omega, by omega, ?_⟩
  have e2 : m2[m.length]? = some (.lst []) := by
    rw [x2.same m.length (List.getElem?_eq_some_iff.mp e1).1 (by have := hd.lt; omega)]; exact e1
  have hlt : p ≠ m.length := by have := hd.lt; omega
  refine for_inv (I := fun ws d m' => ∃ rs ahead a6 a7 t, d = [some (W.ref p), some (W.int most), t, some (.ref m.length), some (.int ahead), some (.int wide), a6, a7] ∧ Ext p m m' ∧ m'[m.length]? = some (.lst (rs.map encR)) ∧ rsOk most (-1) rs ∧ lastHi (-1) rs = ahead ∧ -1 ≤ ahead ∧ rs.length + ws.length ≤ 3) ?_ ?_ _ _ m2 ⟨[], -1, none, none, none, rfl, x1.trans x2, e2, trivial, rfl, by decide, ?_⟩
  · rintro w ws d m' ⟨rs, ahead, a6, a7, t, rfl, x, e, ok, la, ha, len⟩ P hP
    refine ⟨trivial, ?_⟩
    walk_at "fw"
    simp only [c_law_roll, oAdd, oMul, fMin]
    refine ⟨w0, by omega, x.dice, fun s1 m3 s10 s11 y1 => ⟨w0, by omega, y1.dice, fun s2 m4 s20 s21 y2 => ⟨by decide, by decide, y2.dice, fun s3 m5 s30 s31 y3 => ⟨.inl (.inl ⟨by omega, by omega⟩), ?_⟩⟩⟩⟩
    have y := y1.trans (y2.trans y3)
    have x5 := x.trans y
    have e5 : m5[m.length]? = some (.lst (rs.map encR)) := by
      rw [y.same m.length (List.getElem?_eq_some_iff.mp e).1 (Ne.symm hlt)]; exact e
    have hmul : 0 ≤ s2 * s3 := Int.mul_nonneg s20 s30
    generalize hhi : (if ahead + 1 + s1 + s2 * s3 < most then ahead + 1 + s1 + s2 * s3 else most) = hi
    simp only [oLe]
    by_cases hc : ahead + 1 + s1 ≤ most
    · simp only [hc, decide_true, if_true, tyIs, lstOf, e5, mAppend]
      have hhi2 : ahead + 1 + s1 ≤ hi ∧ hi ≤ most := by subst hhi; split <;> omega
      obtain ⟨k1, k2⟩ := rsOk_snoc (x := ahead + 1 + s1) (y := hi) ok (by omega) hhi2.1 hhi2.2
      refine ⟨⟨trivial, rfl⟩, by decide, ?_, ?_⟩
      · simp only [List.length_cons] at len
        simp only [List.length_map]
        unfold sizeLine; omega
      refine hP _ _ ⟨rs ++ [(ahead + 1 + s1, hi)], hi, _, _, _, rfl, x5.own (Nat.le_refl _) hd, ?_, k1, k2, by omega, ?_⟩
      · rw [List.getElem?_set_self (List.getElem?_eq_some_iff.mp e5).1]
        simp [encR]
      · simp at len ⊢; omega
    · simp only [hc, decide_false, Bool.false_eq_true, if_false]
      refine hP _ _ ⟨rs, ahead, _, _, _, rfl, x5, e5, ok, la, ha, ?_⟩
      simp at len; omega
  · rintro d m' ⟨rs, ahead, a6, a7, t, rfl, x, e, ok, la, ha, len⟩
    exact ⟨trivial, fin (endW R Z) [some (W.ref p), some (W.int most), t, some (.ref m.length), some (.int ahead), some (.int wide), a6, a7] m' rs rfl x rfl e ok (by simpa using len)⟩
  · simp [rangeW]; omega
theorem lookTop_le {l : Str} {most : Int} (h : lookTop l = some most) : 0 ≤ most ∧ most ≤ 1000000 := by
  unfold lookTop at h
  repeat' split at h
  all_goals first | (cases h; decide) | cases h
theorem areRanges_enc {most : Int} {rs : List (Int × Int)} (h1 : 1 ≤ rs.length) (h2 : rs.length ≤ 6) (h : rsOk most (-1) rs) : areRanges most (.tup (rs.map encR)) = true := by
  unfold areRanges
  simp only [List.length_map, areRs_enc h, Bool.and_true, Bool.and_eq_true, decide_eq_true_eq]
  exact ⟨h1, h2⟩
def c_law_look : Con := fun ws m R _ => match ws with
  | [.ref p, .int far] => 0 ≤ far ∧ far ≤ 1000000 ∧ DiceAt m p ∧ ∀ w m', Ext p m m' → noRef w = true → (∀ d, partsW (d + 1) w = 1) → R w m'
  | _ => False
theorem pick8 {r : Int} (h0 : 0 ≤ r) (h1 : r < 8) (l : List W) (hl : l.length = 8) : ∃ w, w ∈ l ∧ atI l r = some w := by
  obtain ⟨i, rfl⟩ : ∃ i : Nat, r = i := ⟨r.toNat, by omega⟩
  have hi : i < l.length := by omega
  exact ⟨l[i], List.getElem_mem _, by rw [atI_nat hi]; exact List.getElem?_eq_getElem hi⟩
def PB : Nat → Nat
  | 0 => 0
  | 1 => 1
  | d + 2 => if d + 2 < 4 then 1 + 3 * PB (d + 1) else 1 + 2 * PB (d + 1)
def c_law_condition (k : Nat) : Con := fun ws m R _ => match ws with
  | [.ref p, .int deep, .int far] => 1 ≤ deep ∧ deep.toNat < k ∧ 0 ≤ far ∧ far ≤ 1000000 ∧ DiceAt m p ∧ ∀ w m', Ext p m m' → noRef w = true → 1 ≤ partsW deep.toNat w → partsW deep.toNat w ≤ PB deep.toNat → R w m'
  | _ => False
theorem PB_pos : ∀ d, 1 ≤ PB (d + 1)
  | 0 => by decide
  | d + 1 => by
    unfold PB
    have := PB_pos d
    split <;> omega
theorem noRefs_all : ∀ {l : List W}, (∀ w ∈ l, noRef w = true) → noRefs l = true
  | [], _ => rfl
  | a :: r, h => by
    unfold noRefs
    rw [h a (by simp), noRefs_all fun w hw => h w (List.mem_cons_of_mem _ hw)]
    rfl
end FW

namespace FW
open PySem PySem.Spec L2
local macro_rules | `(tactic| walk_at "fw") => `(tactic| simp only [startW, endW, sRet, sRetN, sNext, sSeq, sDrop, sIf, sAsg, sRaise, sPar, sBreak, sCont, gSet, gTupN, gsetN, gSub, oSet, wC, wVar, getS0, getSs, wOp, wUn, wAnd, wOr, wNot, wTru, wTAnd, wTOr, wTNot, wTB, wChain, wIf, wCB, wCall, wNil, wCons, wTup, wLst, wLstM, wDct, wSl, wP, wNoP, wBM, wIt, wRange1, wRange2, wLc, wLcM, sFor, Tgt.wg, Tgt.slots, wipeW,
  List.map_cons, List.map_nil, List.length_cons, List.length_nil, List.replicate, List.append_nil, List.nil_append, List.cons_append, List.getElem?_cons_zero, List.getElem?_cons_succ, List.set_cons_zero, List.set_cons_succ, if_true, true_and, and_true])
theorem lc_encF {α : Type} {still : Sto → Prop} {gt : WG} {tt : WT} {te : WE} {d0 : List (Option W)} {R : List W → Sto → Prop} {m : Sto} (e : α → W) (p : α → Bool) (hs : still m) : ∀ (xs : List α) (acc : List W),
    acc.length + xs.length ≤ sizeLine → (∀ x ∈ xs, ∀ (K : WR) (K2 : Sto → Prop), (p x = true → K (e x) m) → (p x = false → K2 m) → gt (e x) d0 m (fun d1 m1 => tt d1 m1 (fun b m2 => if b = true then te d1 m2 K noZ else K2 m2) noZ)) →
    R (acc ++ (xs.filter p).map e) m → lcGo still gt tt te d0 R (xs.map e) acc m
  | [], acc, _, _, h => ⟨hs, by simpa using h⟩
  | w :: ws, acc, hl, hf, h => by
    rw [List.map_cons]
    unfold lcGo
    refine ⟨hs, hf w (by simp) _ _ (fun hp => ⟨by simp at hl; omega, lc_encF e p hs ws (acc ++ [e w]) (by simp at hl ⊢; omega) (fun u hu => hf u (List.mem_cons_of_mem _ hu)) ?_⟩) (fun hp => lc_encF e p hs ws acc (by simp at hl ⊢; omega) (fun u hu => hf u (List.mem_cons_of_mem _ hu)) ?_)⟩
    · simpa [List.filter_cons, hp] using h
    · simpa [List.filter_cons, hp] using h
end FW

namespace FW
open PySem PySem.Spec L2
local macro_rules | `(tactic| walk_at "fw") => `(tactic| simp only [startW, endW, sRet, sRetN, sNext, sSeq, sDrop, sIf, sAsg, sRaise, sPar, sBreak, sCont, gSet, gTupN, gsetN, gSub, oSet, wC, wVar, getS0, getSs, wOp, wUn, wAnd, wOr, wNot, wTru, wTAnd, wTOr, wTNot, wTB, wChain, wIf, wCB, wCall, wNil, wCons, wTup, wLst, wLstM, wDct, wSl, wP, wNoP, wBM, wIt, wRange1, wRange2, wLc, wLcM, sFor, Tgt.wg, Tgt.slots, wipeW,
  List.map_cons, List.map_nil, List.length_cons, List.length_nil, List.replicate, List.append_nil, List.nil_append, List.cons_append, List.getElem?_cons_zero, List.getElem?_cons_succ, List.set_cons_zero, List.set_cons_succ, if_true, true_and, and_true])
theorem lmax_le {B : Int} : ∀ l : List Int, l ≠ [] → (∀ x ∈ l, x ≤ B) → lmax l ≤ B
  | [], h, _ => absurd rfl h
  | [x], _, h => h x (by simp)
  | x :: y :: r, _, h => by
    have ih := lmax_le (y :: r) (by simp) fun z hz => h z (List.mem_cons_of_mem _ hz)
    have hx := h x (by simp)
    show max x (lmax (y :: r)) ≤ B
    omega
def c_law : Con := fun ws m R Z => ∃ ns : List Int, ns.length ≤ 63 ∧ (ws = [.fzl (ns.map W.int)] ∨ ws = [.lst (ns.map W.int)]) ∧ m = [] ∧ ∀ m', R (.bl true) m'
theorem PB_le {d : Nat} (h : d ≤ 5) : PB d ≤ 55 := by
  have : d = 0 ∨ d = 1 ∨ d = 2 ∨ d = 3 ∨ d = 4 ∨ d = 5 := by omega
  rcases this with rfl | rfl | rfl | rfl | rfl | rfl <;> decide
end FW

namespace FW
open PySem PySem.Spec L2
mutual
def edgesC : Cond → List Int
  | .look l rs => if l = "all" then rs.map (·.1) ++ rs.map (fun r => r.2 + 1) else []
  | .neg c => edgesC c
  | .many _ cs => edgesCs cs
def edgesCs : List Cond → List Int
  | [] => []
  | c :: r => edgesC c ++ edgesCs r
end
mutual
def turnC : Cond → Int
  | .look l _ => (lookTurn l).getD 1
  | .neg c => turnC c
  | .many _ cs => turnCs cs
def turnCs : List Cond → Int
  | [] => 1
  | c :: r => max (turnC c) (turnCs r)
end
def isTurn (t : Int) : Prop := t = 1 ∨ t = 10 ∨ t = 100 ∨ t = 1000
theorem isTurn_pos {t : Int} (h : isTurn t) : 0 < t ∧ t ≤ 1000 := by
  rcases h with rfl | rfl | rfl | rfl <;> exact ⟨by decide, by decide⟩
theorem isTurn_max {a b : Int} (h1 : isTurn a) (h2 : isTurn b) : isTurn (max a b) := by
  by_cases h : a ≤ b
  · rw [Int.max_eq_right h]; exact h2
  · rw [Int.max_eq_left (by omega)]; exact h1
theorem isTurn_dvd {a b : Int} (h1 : isTurn a) (h2 : isTurn b) (h : a ≤ b) : a ∣ b := by
  rcases h1 with rfl | rfl | rfl | rfl <;> rcases h2 with rfl | rfl | rfl | rfl <;> first | (exfalso; omega) | decide
theorem lookTurn_is {l : Str} {t : Int} (h : lookTurn l = some t) : isTurn t := by
  unfold lookTurn at h
  repeat' split at h
  all_goals first | (cases h; first | exact .inl rfl | exact .inr (.inl rfl) | exact .inr (.inr (.inl rfl)) | exact .inr (.inr (.inr rfl))) | cases h
theorem turnC_is : ∀ (k : Nat) (c : Cond), okC k c → isTurn (turnC c)
  | 0, _, h => h.elim
  | k + 1, .look l rs, h => by
    obtain ⟨most, h1, _⟩ := h
    obtain ⟨t, ht, _⟩ := turn_ok h1
    unfold turnC
    rw [ht]
    exact lookTurn_is ht
  | k + 1, .neg c, h => by unfold turnC; exact turnC_is k c h
  | k + 1, .many b cs, h => by
    unfold turnC
    have : ∀ cs : List Cond, (∀ c ∈ cs, okC k c) → isTurn (turnCs cs) := by
      intro cs
      induction cs with
      | nil => intro _; exact .inl rfl
      | cons c r ih => intro hc; unfold turnCs; exact isTurn_max (turnC_is k c (hc c (by simp))) (ih fun c' h' => hc c' (by simp [h']))
    exact this cs h.2.2
theorem turnCs_is {k : Nat} : ∀ {cs : List Cond}, (∀ c ∈ cs, okC k c) → isTurn (turnCs cs)
  | [], _ => .inl rfl
  | c :: r, hc => by unfold turnCs; exact isTurn_max (turnC_is k c (hc c (by simp))) (turnCs_is fun c' h' => hc c' (by simp [h']))
theorem turnCs_ge {c : Cond} : ∀ {cs : List Cond}, c ∈ cs → turnC c ≤ turnCs cs
  | [], h => by cases h
  | d :: r, h => by
    unfold turnCs
    rcases List.mem_cons.mp h with rfl | h
    · exact Int.le_max_left _ _
    · exact Int.le_trans (turnCs_ge h) (Int.le_max_right _ _)
theorem edgesCs_mem {c : Cond} {e : Int} : ∀ {cs : List Cond}, c ∈ cs → e ∈ edgesC c → e ∈ edgesCs cs
  | [], h, _ => by cases h
  | d :: r, h, he => by
    unfold edgesCs
    rcases List.mem_cons.mp h with rfl | h
    · exact List.mem_append_left _ he
    · exact List.mem_append_right _ (edgesCs_mem h he)
/-- what comes again: alike at n and n', if T divides the way and no cut lies between -/
def Per {α : Type} (p : Int → α) (cuts : List Int) (T : Int) : Prop := ∀ n n', n ≤ n' → T ∣ n' - n → (∀ e ∈ cuts, ¬ (n < e ∧ e ≤ n')) → p n = p n'
theorem Per.mono {α : Type} {p : Int → α} {cuts cuts' : List Int} {T T' : Int} (h : Per p cuts T) (hc : ∀ e ∈ cuts, e ∈ cuts') (hT : T ∣ T') : Per p cuts' T' :=
  fun n n' h1 h2 h3 => h n n' h1 (Int.dvd_trans hT h2) fun e he => h3 e (hc e he)
theorem Per.map2 {α β γ : Type} {p : Int → α} {q : Int → β} {cuts : List Int} {T : Int} (f : α → β → γ) (h : Per p cuts T) (h' : Per q cuts T) : Per (fun n => f (p n) (q n)) cuts T :=
  fun n n' h1 h2 h3 => by show f (p n) (q n) = f (p n') (q n'); rw [h n n' h1 h2 h3, h' n n' h1 h2 h3]
theorem emod_same {n n' t : Int} (h : t ∣ n' - n) : n % t = n' % t := by
  obtain ⟨k, hk⟩ := h
  have : n' = n + t * k := by omega
  rw [this, Int.add_mul_emod_self_left]
theorem fitsR_same {n n' : Int} (hn : n ≤ n') : ∀ rs : List (Int × Int), (∀ e ∈ rs.map (·.1) ++ rs.map (fun r => r.2 + 1), ¬ (n < e ∧ e ≤ n')) → fitsR n rs = fitsR n' rs
  | [], _ => rfl
  | (a, b) :: r, h => by
    have ih := fitsR_same hn r fun e he => h e (by
      rcases List.mem_append.mp he with he | he
      · exact List.mem_append_left _ (List.mem_cons_of_mem _ he)
      · exact List.mem_append_right _ (List.mem_cons_of_mem _ he))
    have h1 := h a (by simp)
    have h2 := h (b + 1) (by simp)
    unfold fitsR at ih ⊢
    rw [List.any_cons, List.any_cons, ih]
    have e1 : decide (a ≤ n) = decide (a ≤ n') := by
      rw [Bool.eq_iff_iff, decide_eq_true_eq, decide_eq_true_eq]; omega
    have e2 : decide (n ≤ b) = decide (n' ≤ b) := by
      rw [Bool.eq_iff_iff, decide_eq_true_eq, decide_eq_true_eq]; omega
    simp only [e1, e2]
theorem per_eval : ∀ (k : Nat) (c : Cond), okC k c → Per (fun n => evalC n c) (edgesC c) (turnC c)
  | 0, _, h => h.elim
  | k + 1, .look l rs, h => fun n n' h1 h2 h3 => by
    obtain ⟨most, hm, _⟩ := h
    obtain ⟨t, ht, t1, _⟩ := turn_ok hm
    unfold turnC at h2
    rw [ht] at h2
    show evalC n (.look l rs) = evalC n' (.look l rs)
    unfold evalC seenOf
    rw [ht]
    by_cases hl : l = "all"
    · unfold edgesC at h3
      rw [if_pos hl] at h3
      simp only [hl, if_true]
      exact fitsR_same h1 rs h3
    · simp only [hl, if_false]
      rw [emod_same (show t ∣ n' - n from h2)]
  | k + 1, .neg c, h => fun n n' h1 h2 h3 => by
    show evalC n (.neg c) = evalC n' (.neg c)
    unfold turnC at h2
    unfold edgesC at h3
    unfold evalC
    rw [show evalC n c = evalC n' c from per_eval k c h n n' h1 h2 h3]
  | k + 1, .many b cs, h => fun n n' h1 h2 h3 => by
    unfold turnC at h2
    unfold edgesC at h3
    have each : ∀ c ∈ cs, evalC n c = evalC n' c := fun c hc =>
      per_eval k c (h.2.2 c hc) n n' h1 (Int.dvd_trans (isTurn_dvd (turnC_is k c (h.2.2 c hc)) (turnCs_is h.2.2) (turnCs_ge hc)) h2) fun e he => h3 e (edgesCs_mem hc he)
    have em : cs.map (evalC n) = cs.map (evalC n') := List.map_congr_left each
    show evalC n (.many b cs) = evalC n' (.many b cs)
    unfold evalC
    rw [evalAll_map, evalAny_map, evalAll_map, evalAny_map, em]
def spotsL (T : Int) : List Int → List (Int × Int)
  | [] => []
  | [b] => [(b, b + T)]
  | b :: b' :: r => (b, if b' < b + T then b' else b + T) :: spotsL T (b' :: r)
theorem spots_ge {T : Int} (hT : 0 < T) : ∀ {bs : List Int} {b : Int}, bs.head? = some b → bs.Pairwise (· < ·) → ∀ s ∈ spotsL T bs, b ≤ s.1 ∧ s.1 ≤ s.2
  | [], _, h, _, _, _ => by cases h
  | [c], b, h, _, s, hs => by
    simp at h; subst h
    simp [spotsL] at hs; subst hs
    exact ⟨Int.le_refl _, by show c ≤ c + T; omega⟩
  | c :: c' :: r, b, h, hp, s, hs => by
    simp at h; subst h
    have hlt : c < c' := (List.pairwise_cons.mp hp).1 c' (by simp)
    simp only [spotsL, List.mem_cons] at hs
    rcases hs with rfl | hs
    · refine ⟨Int.le_refl _, ?_⟩
      show c ≤ if c' < c + T then c' else c + T
      split <;> omega
    · have := spots_ge hT (bs := c' :: r) (b := c') rfl (List.pairwise_cons.mp hp).2 s hs
      omega
/-- the spots stand in order -/
theorem spots_order {T : Int} (hT : 0 < T) : ∀ {bs : List Int}, bs.Pairwise (· < ·) → (spotsL T bs).Pairwise fun s s' => s.2 ≤ s'.1
  | [], _ => List.Pairwise.nil
  | [c], _ => by simp [spotsL]
  | c :: c' :: r, hp => by
    have h2 := (List.pairwise_cons.mp hp).2
    simp only [spotsL, List.pairwise_cons]
    refine ⟨fun s hs => ?_, spots_order hT h2⟩
    have := (spots_ge hT (bs := c' :: r) (b := c') rfl h2 s hs).1
    show (if c' < c + T then c' else c + T) ≤ s.1
    split <;> omega
theorem spots_cover {α : Type} {p : Int → α} {T : Int} {cuts : List Int} (hT : 0 < T) (P : Per p cuts T) : ∀ {b : Int} {tl : List Int}, (b :: tl).Pairwise (· < ·) → (∀ e ∈ cuts, b < e → e ∈ tl) → ∀ n, b ≤ n →
    ∃ s ∈ spotsL T (b :: tl), ∃ n0, s.1 ≤ n0 ∧ n0 < s.2 ∧ n0 ≤ n ∧ p n0 = p n
  | b, [], hp, hc, n, hn => by
    have h1 := Int.emod_nonneg (n - b) (show T ≠ 0 by omega)
    have h2 := Int.emod_lt_of_pos (n - b) hT
    have h3 : (n - b) % T ≤ n - b := by
      have := Int.emod_add_mul_ediv (n - b) T
      have := Int.mul_nonneg (show (0 : Int) ≤ T by omega) (Int.ediv_nonneg (show (0 : Int) ≤ n - b by omega) (show (0 : Int) ≤ T by omega))
      omega
    refine ⟨(b, b + T), by simp [spotsL], b + (n - b) % T, by show b ≤ _; omega, by show _ < b + T; omega, by omega, P _ _ (by omega) ?_ fun e he hh => ?_⟩
    · have := Int.emod_add_mul_ediv (n - b) T
      exact ⟨(n - b) / T, by omega⟩
    · have := hc e he (by omega)
      cases this
  | b, b' :: r, hp, hc, n, hn => by
    have hlt : b < b' := (List.pairwise_cons.mp hp).1 b' (by simp)
    have hp2 := (List.pairwise_cons.mp hp).2
    by_cases hb : n < b'
    · have h1 := Int.emod_nonneg (n - b) (show T ≠ 0 by omega)
      have h2 := Int.emod_lt_of_pos (n - b) hT
      have h3 : (n - b) % T ≤ n - b := by
        have := Int.emod_add_mul_ediv (n - b) T
        have := Int.mul_nonneg (show (0 : Int) ≤ T by omega) (Int.ediv_nonneg (show (0 : Int) ≤ n - b by omega) (show (0 : Int) ≤ T by omega))
        omega
      refine ⟨(b, if b' < b + T then b' else b + T), by simp [spotsL], b + (n - b) % T, by show b ≤ _; omega, ?_, by omega, P _ _ (by omega) ?_ fun e he hh => ?_⟩
      · show _ < if b' < b + T then b' else b + T
        split <;> omega
      · have := Int.emod_add_mul_ediv (n - b) T
        exact ⟨(n - b) / T, by omega⟩
      · have hm := hc e he (by omega)
        rcases List.mem_cons.mp hm with rfl | hm
        · omega
        · have := (List.pairwise_cons.mp hp2).1 e hm
          omega
    · obtain ⟨s, hs, r⟩ := spots_cover hT P (b := b') (tl := r) hp2 (fun e he hh => by
        rcases List.mem_cons.mp (hc e he (by omega)) with rfl | hm
        · omega
        · exact hm) n (by omega)
      exact ⟨s, by simp only [spotsL, List.mem_cons]; exact .inr hs, r⟩
def LeastIs (p : Int → Bool) (since : Int) : Option Int → Prop
  | none => ∀ n, since ≤ n → p n = false
  | some x => since ≤ x ∧ p x = true ∧ ∀ n, since ≤ n → n < x → p n = false
theorem LeastIs.uniq {p : Int → Bool} {since : Int} : ∀ {r r' : Option Int}, LeastIs p since r → LeastIs p since r' → r = r'
  | none, none, _, _ => rfl
  | none, some x, h, h' => by have := h x h'.1; rw [h'.2.1] at this; cases this
  | some x, none, h, h' => by have := h' x h.1; rw [h.2.1] at this; cases this
  | some x, some y, ⟨h1, h2, h3⟩, ⟨g1, g2, g3⟩ => by
    by_cases hxy : x < y
    · have := g3 x h1 hxy; rw [h2] at this; cases this
    · by_cases hyx : y < x
      · have := h3 y g1 hyx; rw [g2] at this; cases this
      · rw [show x = y by omega]
theorem least_none {p : Int → Bool} {T b : Int} {cuts tl : List Int} (hT : 0 < T) (P : Per p cuts T) (hp : (b :: tl).Pairwise (· < ·)) (hc : ∀ e ∈ cuts, b < e → e ∈ tl) (h : ∀ s ∈ spotsL T (b :: tl), ∀ n, s.1 ≤ n → n < s.2 → p n = false) : LeastIs p b none := fun n hn => by
  obtain ⟨s, hs, n0, h1, h2, h3, h4⟩ := spots_cover hT P hp hc n hn
  rw [← h4]; exact h s hs n0 h1 h2
theorem least_some {p : Int → Bool} {T b x : Int} {cuts tl : List Int} {ss1 ss2 : List (Int × Int)} {s : Int × Int} (hT : 0 < T) (P : Per p cuts T) (hp : (b :: tl).Pairwise (· < ·)) (hc : ∀ e ∈ cuts, b < e → e ∈ tl)
    (e : spotsL T (b :: tl) = ss1 ++ s :: ss2) (h1 : ∀ s ∈ ss1, ∀ n, s.1 ≤ n → n < s.2 → p n = false) (h2 : ∀ n, s.1 ≤ n → n < x → p n = false) (h3 : s.1 ≤ x) (h4 : x < s.2) (h5 : p x = true) : LeastIs p b (some x) := by
  have hb := (spots_ge hT (bs := b :: tl) (b := b) rfl hp s (by rw [e]; simp)).1
  refine ⟨by omega, h5, fun n hn hx => ?_⟩
  obtain ⟨s', hs', n0, g1, g2, g3, g4⟩ := spots_cover hT P hp hc n hn
  rw [← g4]
  have ord := spots_order hT hp
  rw [e] at hs' ord
  rcases List.mem_append.mp hs' with hs' | hs'
  · exact h1 s' hs' n0 g1 g2
  · rcases List.mem_cons.mp hs' with rfl | hs'
    · exact h2 n0 g1 (by omega)
    · have := (List.pairwise_cons.mp (List.pairwise_append.mp ord).2.1).1 s' hs'
      omega
end FW

namespace FW
open PySem PySem.Spec L2
def N_edges : List Str := ["condition", "found", "part", "low", "high"]
/-- edges -/
def t_edges (c_edges : Con) : WS := (sSeq (sIf (wTB (wOp (oEq false) (wOp oIx (wVar 0) (wC (.int 0))) (wC (.str "in")))) (sSeq (sIf (wTB (wOp (oEq true) (wOp oIx (wVar 0) (wC (.int 1))) (wC (.str "all")))) (sRet (wLst wNil)) sNext)
    (sRet (wOp oAdd (wLc (wIt (wOp oIx (wVar 0) (wC (.int 2)))) (.tp [3, 4]) wYes (wVar 3)) (wLc (wIt (wOp oIx (wVar 0) (wC (.int 2)))) (.tp [3, 4]) wYes (wOp oAdd (wVar 4) (wC (.int 1))))))) sNext)
    (sSeq (sAsg (wLst wNil) (gSet 1))
    (sSeq (sFor (wIt (wSl (wVar 0) (wP (wC (.int 1))) wNoP)) (Tgt.nm 2).wg (sAsg (wOp oAdd (wVar 1) (wCall 1 c_edges (wCons (wVar 2) wNil))) (gSet 1)))
    (sRet (wVar 1)))))
def N_turn_of : List Str := ["condition", "part"]
/-- turn_of -/
def t_turn_of (c_turn_of : Con) : WS := (sSeq (sIf (wTB (wOp (oEq false) (wOp oIx (wVar 0) (wC (.int 0))) (wC (.str "in")))) (sRet (wOp oIx (wC dTURNS) (wOp oIx (wVar 0) (wC (.int 1))))) sNext)
    (sRet (wCB fMax (wCons (wLc (wIt (wSl (wVar 0) (wP (wC (.int 1))) wNoP)) (.nm 1) wYes (wCall 1 c_turn_of (wCons (wVar 1) wNil))) wNil))))
def N_spots : List Str := ["cuts", "turn", "since", "begins", "ends", "cut", "begin", "later"]
/-- spots -/
def t_spots : WS := (sSeq (sAsg (wOp oAdd (wLst (wCons (wVar 2) wNil)) (wLc (wIt (wSortSet (wVar 0))) (.nm 5) (wTB (wOp oGt (wVar 5) (wVar 2))) (wVar 5))) (gSet 3))
    (sSeq (sAsg (wLc (wZip (wCons (wVar 3) (wCons (wSl (wVar 3) (wP (wC (.int 1))) wNoP) wNil))) (.tp [6, 7]) wYes (wCB fMin (wCons (wOp oAdd (wVar 6) (wVar 1)) (wCons (wVar 7) wNil)))) (gSet 4))
    (sRet (wListZip (wCons (wVar 3) (wCons (wOp oAdd (wVar 4) (wLst (wCons (wOp oAdd (wOp oIx (wVar 3) (wUn oNeg (wC (.int 1)))) (wVar 1)) wNil))) wNil))))))
def N_least_of : List Str := ["test", "cuts", "turn", "since", "begin", "end", "number"]
/-- least_of -/
def t_least_of (F : W) (c_test c_spots : Con) : WS := (sSeq (sFor (wIt (wCall 3 c_spots (wCons (wVar 1) (wCons (wVar 2) (wCons (wVar 3) wNil))))) (Tgt.tp [4, 5]).wg (sFor (wRange2 (wCons (wVar 4) (wCons (wVar 5) wNil))) (Tgt.nm 6).wg (sIf (wTru (wCallV 0 F 1 c_test (wCons (wVar 6) wNil))) (sRet (wVar 6)) sNext)))
    (sRet (wC .non)))
end FW

namespace FW
open PySem PySem.Spec L2
local macro_rules | `(tactic| walk_at "fw") => `(tactic| simp only [startW, endW, sRet, sRetN, sNext, sSeq, sDrop, sIf, sAsg, sRaise, sPar, sBreak, sCont, gSet, gTupN, gsetN, gSub, oSet, wC, wVar, getS0, getSs, wOp, wUn, wAnd, wOr, wNot, wTru, wTAnd, wTOr, wTNot, wTB, wChain, wIf, wCB, wCall, wNil, wCons, wTup, wLst, wLstM, wDct, wSl, wP, wNoP, wBM, wIt, wRange1, wRange2, wLc, wLcM, sFor, Tgt.wg, Tgt.slots, wipeW, wLam, wCallV, wSortSet, wListZip, wZip, wMaxD, wLenSet, capsOf, lamW,
  List.map_cons, List.map_nil, List.length_cons, List.length_nil, List.replicate, List.append_nil, List.nil_append, List.cons_append, List.getElem?_cons_zero, List.getElem?_cons_succ, List.set_cons_zero, List.set_cons_succ, if_true, true_and, and_true])
mutual
def partsC : Cond → Nat
  | .look _ _ => 1
  | .neg c => 1 + partsC c
  | .many _ cs => 1 + partsCs cs
def partsCs : List Cond → Nat
  | [] => 0
  | c :: r => partsC c + partsCs r
end
theorem partsC_pos : ∀ c : Cond, 1 ≤ partsC c
  | .look _ _ => by unfold partsC; exact Nat.le_refl _
  | .neg _ => by unfold partsC; omega
  | .many _ _ => by unfold partsC; omega
theorem partsCs_mem {c : Cond} : ∀ {cs : List Cond}, c ∈ cs → partsC c ≤ partsCs cs
  | [], h => by cases h
  | d :: r, h => by
    unfold partsCs
    rcases List.mem_cons.mp h with rfl | h
    · omega
    · have := partsCs_mem h; omega
/-- a condition with parts, as a list of them -/
theorem enc_parts {k : Nat} {c : Cond} (h : okC (k + 1) c) : (∃ l rs, c = .look l rs) ∨ ∃ x cs, enc c = .tup (.str x :: cs.map enc) ∧ x ≠ "in" ∧ edgesC c = edgesCs cs ∧ turnC c = turnCs cs ∧ (∀ d ∈ cs, okC k d) ∧ cs ≠ [] ∧ cs.length ≤ 6 ∧ partsC c = 1 + partsCs cs := by
  cases c with
  | look l rs => exact .inl ⟨l, rs, rfl⟩
  | neg c =>
    have hc : okC k c := h
    refine .inr ⟨"not", [c], by simp [enc], by simp, by simp [edgesC, edgesCs], ?_, by simpa using hc, by simp, by simp, by simp [partsC, partsCs]⟩
    have := isTurn_pos (turnC_is k c hc)
    simp only [turnC, turnCs]
    rw [Int.max_eq_left (by omega)]
  | many b cs =>
    obtain ⟨h1, h2, h3⟩ := h
    refine .inr ⟨_, cs, by unfold enc; rw [encs_map], ?_, by simp [edgesC], by simp [turnC], h3, ?_, h2, by simp [partsC]⟩
    · cases b <;> simp
    · rintro rfl; simp at h1
theorem edges_len : ∀ (k : Nat) (c : Cond), okC k c → (edgesC c).length ≤ 12 * partsC c
  | 0, _, h => h.elim
  | k + 1, c, h => by
    rcases enc_parts h with ⟨l, rs, rfl⟩ | ⟨x, cs, _, _, e1, _, h3, _, _, e2⟩
    · obtain ⟨most, _, _, h6, _⟩ := h
      unfold edgesC partsC
      split
      · simp; omega
      · simp
    · rw [e1, e2]
      have : ∀ l : List Cond, (∀ d ∈ l, okC k d) → (edgesCs l).length ≤ 12 * partsCs l := by
        intro l
        induction l with
        | nil => intro _; simp [edgesCs]
        | cons d r ih =>
          intro hd
          have h1 := edges_len k d (hd d (by simp))
          have h2 := ih fun c hc => hd c (by simp [hc])
          unfold edgesCs partsCs
          rw [List.length_append]
          omega
      have := this cs h3
      omega
theorem size_ok {n : Nat} (h : n ≤ 1000000) : n ≤ sizeLine := by
  have : (2 : Nat) ^ 24 = 16777216 := by decide
  unfold sizeLine; omega
def c_edges (k : Nat) : Con := fun ws m R _ => match ws with
  | [w] => ∃ c, w = enc c ∧ okC k c ∧ partsC c ≤ 10000 ∧ R (.lst ((edgesC c).map W.int)) m
  | _ => False
theorem b_edges (k : Nat) : ∀ ws m R Z, ws.length = 1 → c_edges (k + 1) ws m R Z → t_edges (c_edges k) (endW R Z) (startW N_edges ws) m := by
  intro ws m R Z hl h
  obtain ⟨a, rfl⟩ := one hl
  obtain ⟨c, rfl, hok, hp, hR⟩ := h
  unfold t_edges N_edges
  have e0 : ∀ w, startW ["condition", "found", "part", "low", "high"] [w] = [some w, none, none, none, none] := fun _ => rfl
  rw [e0]
  rcases enc_parts hok with ⟨l, rs, rfl⟩ | ⟨x, cs, e1, hx, e2, _, h3, hne, h6, e3⟩
  · obtain ⟨most, h1, h2, h3, h4⟩ := hok
    unfold enc
    refine q_yes m (fun K hK => ?_) ?_
    · walk_at "fw"
      simpa [oEq, scalW, oIx, seqOf] using hK
    unfold edgesC at hR
    by_cases hl : l = "all"
    · rw [if_pos hl] at hR
      refine q_skip m (fun K hK => ?_) ?_
      · walk_at "fw"
        simpa [oEq, scalW, oIx, seqOf, hl] using hK
      refine r_ret _ m (fun K hK => ?_) hR
      walk_at "fw"
      simp only [oIx, seqOf, atI_2]
      refine lc_enc encR (fun r => W.int r.1) trivial rs [] (six_size h3) (fun r hr K hK => ?_) ?_
      · walk_at "fw"
        simp only [encR]
        walk_at "fw"
        exact hK
      refine lc_enc encR (fun r => W.int (r.2 + 1)) trivial rs [] (six_size h3) (fun r hr K hK => ?_) ?_
      · walk_at "fw"
        simp only [encR]
        walk_at "fw"
        simp only [oAdd]
        exact hK
      simp only [List.nil_append, oAdd, lstOfT]
      refine ⟨size_ok (by simp; omega), ?_⟩
      simpa [Function.comp_def] using hK
    · rw [if_neg hl] at hR
      refine q_yes m (fun K hK => ?_) ?_
      · walk_at "fw"
        simpa [oEq, scalW, oIx, seqOf, hl] using hK
      walk_at "fw"
      exact ⟨by decide, hR⟩
  · rw [e1]
    rw [e2] at hR
    refine q_skip m (fun K hK => ?_) ?_
    · walk_at "fw"
      simpa [oEq, scalW, oIx, seqOf, hx] using hK
    refine q_asg (.lst []) m (fun K hK => ?_) ?_
    · walk_at "fw"
      exact ⟨by decide, hK⟩
    walk_at "fw"
    simp only [oSl, cutW_1]
    refine for_inv (I := fun ws d m' => m' = m ∧ ∃ dn rest t, cs = dn ++ rest ∧ ws = rest.map enc ∧ d = [some (.tup (.str x :: cs.map enc)), some (.lst ((edgesCs dn).map W.int)), t, none, none]) ?_ ?_ _ _ m ⟨rfl, [], cs, none, rfl, rfl, rfl⟩
    · rintro w ws d m' ⟨rfl, dn, rest, t, ec, ew, rfl⟩ P hP
      cases rest with
      | nil => cases ew
      | cons c' rest =>
        simp only [List.map_cons, List.cons.injEq] at ew
        obtain ⟨rfl, rfl⟩ := ew
        refine ⟨trivial, ?_⟩
        walk_at "fw"
        have hm : c' ∈ cs := by rw [ec]; simp
        have hpc := partsCs_mem hm
        refine ⟨c', rfl, h3 c' hm, by omega, ?_⟩
        simp only [oAdd, lstOfT]
        have ecs : ∀ (a b : List Cond), edgesCs (a ++ b) = edgesCs a ++ edgesCs b := by
          intro a b
          induction a with
          | nil => rfl
          | cons d r ih => simp only [List.cons_append, edgesCs, ih, List.append_assoc]
        have hlen : ∀ l : List Cond, (∀ d ∈ l, okC k d) → (edgesCs l).length ≤ 12 * partsCs l := by
          intro l
          induction l with
          | nil => intro _; simp [edgesCs]
          | cons d r ih =>
            intro hd
            have h1 := edges_len k d (hd d (by simp))
            have h2 := ih fun c hc => hd c (by simp [hc])
            unfold edgesCs partsCs
            rw [List.length_append]
            omega
        have pcs : ∀ (a b : List Cond), partsCs (a ++ b) = partsCs a + partsCs b := by
          intro a b
          induction a with
          | nil => simp [partsCs]
          | cons d r ih => simp only [List.cons_append, partsCs, ih]; omega
        have h1 := hlen dn fun d hd => h3 d (by rw [ec]; simp [hd])
        have h2 := edges_len k c' (h3 c' hm)
        have h4 : partsCs dn + partsC c' ≤ partsCs cs := by
          rw [ec, pcs]
          simp only [partsCs]
          omega
        refine ⟨size_ok (by simp only [List.length_map]; omega), ?_⟩
        refine hP _ _ ⟨rfl, dn ++ [c'], rest, some (enc c'), by rw [ec]; simp, rfl, ?_⟩
        rw [ecs]
        simp [edgesCs]
    · rintro d m' ⟨rfl, dn, rest, t, ec, ew, rfl⟩
      cases rest with
      | cons _ _ => cases ew
      | nil =>
        refine ⟨trivial, ?_⟩
        walk_at "fw"
        rw [List.append_nil] at ec
        rw [← ec]
        exact hR
theorem lmax_turns : ∀ {cs : List Cond} {k : Nat}, cs ≠ [] → (∀ c ∈ cs, okC k c) → lmax (cs.map turnC) = turnCs cs
  | [], _, h, _ => absurd rfl h
  | [c], k, _, h => by
    have := isTurn_pos (turnC_is k c (h c (by simp)))
    simp only [List.map_cons, List.map_nil, lmax, turnCs]
    rw [Int.max_eq_left (by omega)]
  | c :: d :: r, k, _, h => by
    have ih := lmax_turns (cs := d :: r) (k := k) (by simp) fun c hc => h c (List.mem_cons_of_mem _ hc)
    show max (turnC c) (lmax ((d :: r).map turnC)) = max (turnC c) (turnCs (d :: r))
    rw [ih]
def c_turn_of (k : Nat) : Con := fun ws m R _ => match ws with
  | [w] => ∃ c, w = enc c ∧ okC k c ∧ R (.int (turnC c)) m
  | _ => False
theorem intsW_of' {α : Type} {f : α → Int} : ∀ l : List α, intsW (l.map fun w => W.int (f w)) = some (l.map f)
  | [] => rfl
  | a :: r => by simp [intsW, intsW_of' r]
theorem b_turn_of (k : Nat) : ∀ ws m R Z, ws.length = 1 → c_turn_of (k + 1) ws m R Z → t_turn_of (c_turn_of k) (endW R Z) (startW N_turn_of ws) m := by
  intro ws m R Z hl h
  obtain ⟨a, rfl⟩ := one hl
  obtain ⟨c, rfl, hok, hR⟩ := h
  unfold t_turn_of N_turn_of
  have e0 : ∀ w, startW ["condition", "part"] [w] = [some w, none] := fun _ => rfl
  rw [e0]
  rcases enc_parts hok with ⟨l, rs, rfl⟩ | ⟨x, cs, e1, hx, _, e2, h3, hne, h6, e3⟩
  · obtain ⟨most, h1, h2, h3, h4⟩ := hok
    obtain ⟨t, ht, t1, t2⟩ := turn_ok h1
    unfold enc
    refine q_yes m (fun K hK => ?_) ?_
    · walk_at "fw"
      simpa [oEq, scalW, oIx, seqOf] using hK
    unfold turnC at hR
    rw [ht] at hR
    walk_at "fw"
    simp only [oIx, seqOf, atI_1, dTURNS, dctOf, val_TURNS, ht, Option.map]
    exact hR
  · rw [e1]
    rw [e2] at hR
    refine q_skip m (fun K hK => ?_) ?_
    · walk_at "fw"
      simpa [oEq, scalW, oIx, seqOf, hx] using hK
    walk_at "fw"
    simp only [oSl, cutW_1]
    refine lc_enc enc (fun c => W.int (turnC c)) trivial cs [] (six_size h6) (fun c hc K hK => ?_) ?_
    · walk_at "fw"
      exact ⟨c, rfl, h3 c hc, hK⟩
    · have e4 : lintOf m (.lst (cs.map fun c => W.int (turnC c))) = some (cs.map turnC) := intsW_of' cs
      simp only [List.nil_append, fMax, e4]
      refine ⟨by simpa using hne, ?_⟩
      rw [lmax_turns hne h3]
      exact hR
end FW

namespace FW
open PySem PySem.Spec L2
local macro_rules | `(tactic| walk_at "fw") => `(tactic| simp only [startW, endW, sRet, sRetN, sNext, sSeq, sDrop, sIf, sAsg, sRaise, sPar, sBreak, sCont, gSet, gTupN, gsetN, gSub, oSet, wC, wVar, getS0, getSs, wOp, wUn, wAnd, wOr, wNot, wTru, wTAnd, wTOr, wTNot, wTB, wChain, wIf, wCB, wCall, wNil, wCons, wTup, wLst, wLstM, wDct, wSl, wP, wNoP, wBM, wIt, wRange1, wRange2, wLc, wLcM, sFor, Tgt.wg, Tgt.slots, wipeW, wLam, wCallV, wSortSet, wListZip, wZip, wMaxD, wLenSet, capsOf, lamW,
  List.map_cons, List.map_nil, List.length_cons, List.length_nil, List.replicate, List.append_nil, List.nil_append, List.cons_append, List.getElem?_cons_zero, List.getElem?_cons_succ, List.set_cons_zero, List.set_cons_succ, if_true, true_and, and_true])
theorem p62 : (2 : Int) ^ 62 = 4611686018427387904 := by decide
theorem p64' : (2 : Int) ^ 64 = 18446744073709551616 := by decide
theorem p15 : (10 : Int) ^ 15 = 1000000000000000 := by decide
def endsL (T : Int) : List Int → List Int
  | [] => []
  | [_] => []
  | b :: b' :: r => (if b' < b + T then b' else b + T) :: endsL T (b' :: r)
theorem zip_spots (T : Int) : ∀ {b : Int} {tl : List Int} {l : Int}, (b :: tl).getLast? = some l → zipT ((b :: tl).map W.int) ((endsL T (b :: tl) ++ [l + T]).map W.int) = (spotsL T (b :: tl)).map encR
  | b, [], l, h => by
    simp at h; subst h
    simp [endsL, spotsL, zipT, encR]
  | b, b' :: r, l, h => by
    rw [List.getLast?_cons_cons] at h
    have ih := zip_spots T (b := b') (tl := r) (l := l) h
    simp only [List.map_cons] at ih
    simp only [endsL, spotsL, List.map_cons, List.cons_append, zipT, encR, ih]
def encU (r : Int × Int) : W := .tpu [.int r.1, .int r.2]
theorem zip_tail (T : Int) : ∀ (b : Int) (tl : List Int), (zipP ((b :: tl).map W.int) (tl.map W.int)) = (List.zip (b :: tl) tl).map encU
  | b, [] => by simp [zipP]
  | b, b' :: r => by
    have ih := zip_tail T b' r
    simp only [List.map_cons] at ih
    simp only [List.map_cons, zipP, List.zip_cons_cons, encU, ih]
theorem ends_zip (T : Int) : ∀ (b : Int) (tl : List Int), (List.zip (b :: tl) tl).map (fun q : Int × Int => if q.2 < q.1 + T then q.2 else q.1 + T) = endsL T (b :: tl)
  | b, [] => by simp [endsL]
  | b, b' :: r => by
    have ih := ends_zip T b' r
    simp only [List.zip_cons_cons, List.map_cons, endsL, ih]
/-- the begins: since, and the cuts behind it -/
structure Begins (cuts : List Int) (since : Int) (tl : List Int) : Prop where
  pw : (since :: tl).Pairwise (· < ·)
  mem : ∀ e, e ∈ tl ↔ e ∈ cuts ∧ since < e
  len : tl.length ≤ 4000
def c_spots : Con := fun ws m R _ => match ws with
  | [w, .int T, .int since] => ∃ cuts, lintOf m w = some cuts ∧ cuts.length ≤ 4000 ∧ ∀ tl, Begins cuts since tl → R (.lst ((spotsL T (since :: tl)).map encR)) m
  | _ => False
theorem filter_pw {since : Int} : ∀ {ns : List Int}, ns.Pairwise (· < ·) → (since :: ns.filter fun n => decide (since < n)).Pairwise (· < ·) := by
  intro ns h
  refine List.pairwise_cons.mpr ⟨fun a ha => ?_, h.filter _⟩
  have := (List.mem_filter.mp ha).2
  simpa using this
theorem b_spots : ∀ ws m R Z, ws.length = 3 → c_spots ws m R Z → t_spots (endW R Z) (startW N_spots ws) m := by
  intro ws m R Z hl h
  obtain ⟨w, b, c, rfl⟩ := three hl
  cases b <;> try exact h.elim
  cases c <;> try exact h.elim
  rename_i T since
  obtain ⟨cuts, hw, hlen, hR⟩ := h
  unfold t_spots N_spots
  have e0 : startW ["cuts", "turn", "since", "begins", "ends", "cut", "begin", "later"] [w, W.int T, W.int since] = [some w, some (.int T), some (.int since), none, none, none, none, none] := rfl
  rw [e0]
  -- the begins
  have first : ∀ u : WS, (∀ tl, Begins cuts since tl → u (endW R Z) [some w, some (.int T), some (.int since), some (.lst ((since :: tl).map W.int)), none, none, none, none] m) →
      sSeq (sAsg (wOp oAdd (wLst (wCons (wVar 2) wNil)) (wLc (wIt (wSortSet (wVar 0))) (.nm 5) (wTB (wOp oGt (wVar 5) (wVar 2))) (wVar 5))) (gSet 3)) u (endW R Z) [some w, some (.int T), some (.int since), none, none, none, none, none] m := by
    intro u hu
    walk_at "fw"
    simp only [hw]
    refine ⟨by decide, hlen, fun ns h1 h2 => ?_⟩
    have nl : ns.length ≤ 4000 := Nat.le_trans (pw_nodup_le h1 h2) hlen
    refine lc_encF W.int (fun n => decide (since < n)) trivial ns [] (size_ok (by simp; omega)) (fun n hn K K2 hK hK2 => ?_) ?_
    · walk_at "fw"
      simp only [oGt, oLt]
      cases e : decide (since < n)
      · simpa using hK2 e
      · simpa using hK e
    · simp only [List.nil_append, oAdd, lstOfT]
      have fl := List.length_filter_le (fun n => decide (since < n)) ns
      refine ⟨size_ok (by simp; omega), ?_⟩
      have := hu (ns.filter fun n => decide (since < n)) ⟨filter_pw h1, fun e => by rw [List.mem_filter, h2 e]; simp, by omega⟩
      rw [List.map_cons] at this
      exact this
  refine first _ fun tl B => ?_
  have tlen := B.len
  -- the ends
  have second : ∀ u : WS, u (endW R Z) [some w, some (.int T), some (.int since), some (.lst ((since :: tl).map W.int)), some (.lst ((endsL T (since :: tl)).map W.int)), none, none, none] m →
      sSeq (sAsg (wLc (wZip (wCons (wVar 3) (wCons (wSl (wVar 3) (wP (wC (.int 1))) wNoP) wNil))) (.tp [6, 7]) wYes (wCB fMin (wCons (wOp oAdd (wVar 6) (wVar 1)) (wCons (wVar 7) wNil)))) (gSet 4)) u (endW R Z) [some w, some (.int T), some (.int since), some (.lst ((since :: tl).map W.int)), none, none, none, none] m := by
    intro u hu
    walk_at "fw"
    simp only [oSl, lstOf, List.map_cons, cutW_1]
    have zt := zip_tail T since tl
    simp only [List.map_cons] at zt
    rw [zt]
    refine lc_enc encU (fun q => W.int (if q.2 < q.1 + T then q.2 else q.1 + T)) (by constructor <;> first | trivial | rfl) (List.zip (since :: tl) tl) [] (size_ok (by simp; omega)) (fun q hq K hK => ?_) ?_
    · walk_at "fw"
      simp only [encU]
      walk_at "fw"
      simp only [oAdd, fMin]
      exact hK
    · have ez := ends_zip T since tl
      have e1 : (List.zip (since :: tl) tl).map (fun q : Int × Int => W.int (if q.2 < q.1 + T then q.2 else q.1 + T)) = (endsL T (since :: tl)).map W.int := by
        rw [← ez, List.map_map]; rfl
      rw [List.nil_append, e1]
      exact hu
  refine second _ ?_
  obtain ⟨l, hlast⟩ : ∃ l, (since :: tl).getLast? = some l := ⟨(since :: tl).getLast (by simp), List.getLast?_eq_some_getLast (by simp)⟩
  have e3 : atI (W.int since :: tl.map W.int) (-1) = some (.int l) := atI_last (by rw [← List.map_cons, List.getLast?_map, hlast]; rfl)
  walk_at "fw"
  simp only [oNeg, oIx, seqOf, lstOf, e3, oAdd, lstOfT]
  have elen : ∀ (b : Int) (tl : List Int), (endsL T (b :: tl)).length = tl.length := by
    intro b tl
    induction tl generalizing b with
    | nil => rfl
    | cons b' r ih => simp only [endsL, List.length_cons, ih b']
  refine ⟨by decide, size_ok (by simp only [List.length_map, elen]; simp; omega), ?_⟩
  have := zip_spots T hlast
  simp only [List.map_append, List.map_cons, List.map_nil] at this
  rw [this]
  exact hR tl B
def optI : Option Int → W
  | none => .non
  | some x => .int x
/-- what is handed over keeps to p -/
def Tests (p : Int → Bool) (since : Int) (m : Sto) (con : Con) : Prop := ∀ n, since ≤ n → n < 2 ^ 61 → ∀ (R : WR) (Z : WZ), R (.bl (p n)) m → con [.int n] m R Z
def h_least_of : W → Con → Con := fun F con ws m R _ => match ws with
  | [f, w, .int T, .int since] => f = F ∧ ∃ (p : Int → Bool) (cuts : List Int), lintOf m w = some cuts ∧ cuts.length ≤ 4000 ∧ 0 < T ∧ T ≤ 1000 ∧ 0 ≤ since ∧ since ≤ 10 ^ 16 ∧ (∀ e ∈ cuts, e ≤ 10 ^ 16) ∧ Per p cuts T ∧ Tests p since m con ∧ ∀ r, LeastIs p since r → R (optI r) m
  | _ => False
def h_least_of_3 : W → Con → Con := fun F con ws => h_least_of F con (ws ++ [.int 0])
theorem spots_le {T M : Int} (hT : 0 < T) : ∀ {bs : List Int}, (∀ b ∈ bs, b ≤ M) → ∀ s ∈ spotsL T bs, s.1 ≤ M ∧ s.2 ≤ M + T
  | [], _, s, hs => by cases hs
  | [c], h, s, hs => by
    simp [spotsL] at hs; subst hs
    have := h c (by simp)
    exact ⟨this, by show c + T ≤ M + T; omega⟩
  | c :: c' :: r, h, s, hs => by
    simp only [spotsL, List.mem_cons] at hs
    rcases hs with rfl | hs
    · have h1 := h c (by simp)
      have h2 := h c' (by simp)
      refine ⟨h1, ?_⟩
      show (if c' < c + T then c' else c + T) ≤ M + T
      split <;> omega
    · exact spots_le hT (fun b hb => h b (List.mem_cons_of_mem _ hb)) s hs
theorem four {ws : List W} (h : ws.length = 4) : ∃ a b c d, ws = [a, b, c, d] := by
  match ws, h with
  | [a, b, c, d], _ => exact ⟨a, b, c, d, rfl⟩
theorem five {ws : List W} (h : ws.length = 5) : ∃ a b c d e, ws = [a, b, c, d, e] := by
  match ws, h with
  | [a, b, c, d, e], _ => exact ⟨a, b, c, d, e, rfl⟩
theorem b_least_of : ∀ (F : W) (con : Con) ws m R Z, ws.length = 4 → h_least_of F con ws m R Z → t_least_of F con c_spots (endW R Z) (startW N_least_of ws) m := by
  intro F con ws m R Z hl h
  obtain ⟨f, w, b, c, rfl⟩ := four hl
  cases b <;> try exact h.elim
  cases c <;> try exact h.elim
  rename_i T since
  obtain ⟨hF, p, cuts, hw, hlen, T0, T1, s0, s1, hc, P, ht, hR⟩ := h
  subst hF
  unfold t_least_of N_least_of
  have e0 : startW ["test", "cuts", "turn", "since", "begin", "end", "number"] [f, w, W.int T, W.int since] = [some f, some w, some (.int T), some (.int since), none, none, none] := rfl
  rw [e0]
  walk_at "fw"
  refine ⟨cuts, hw, hlen, fun tl B => ?_⟩
  have p61 : (2 : Int) ^ 61 = 2305843009213693952 := by decide
  have p16 : (10 : Int) ^ 16 = 10000000000000000 := by decide
  have hbm : ∀ e ∈ cuts, since < e → e ∈ tl := fun e he hh => (B.mem e).mpr ⟨he, hh⟩
  have hM : ∀ b ∈ since :: tl, b ≤ 10 ^ 16 := fun b hb => by
    rcases List.mem_cons.mp hb with rfl | hb
    · exact s1
    · exact hc b ((B.mem b).mp hb).1
  simp only []
  refine for_inv (I := fun ws d m' => m' = m ∧ ∃ dn rest a4 a5 a6, spotsL T (since :: tl) = dn ++ rest ∧ ws = rest.map encR ∧ d = [some f, some w, some (.int T), some (.int since), a4, a5, a6] ∧ ∀ s ∈ dn, ∀ n, s.1 ≤ n → n < s.2 → p n = false) ?_ ?_ _ _ m ⟨rfl, [], spotsL T (since :: tl), none, none, none, rfl, rfl, rfl, by simp⟩
  · rintro v ws d m' ⟨rfl, dn, rest, a4, a5, a6, es, ew, rfl, hdn⟩ Q hQ
    cases rest with
    | nil => cases ew
    | cons s rest =>
      simp only [List.map_cons, List.cons.injEq] at ew
      obtain ⟨rfl, rfl⟩ := ew
      obtain ⟨x, y⟩ := s
      have hmem : (x, y) ∈ spotsL T (since :: tl) := by rw [es]; simp
      have g1 := spots_ge T0 (bs := since :: tl) (b := since) rfl B.pw (x, y) hmem
      have g2 := spots_le T0 hM (x, y) hmem
      simp only at g1 g2
      refine ⟨trivial, ?_⟩
      walk_at "fw"
      simp only [encR]
      walk_at "fw"
      refine ⟨by omega, by omega, by omega, by omega, ?_⟩
      refine for_inv (I := fun ws2 d m2 => m2 = m' ∧ ∃ (i : Nat) (a6 : Option W), ws2 = (List.range ((y - x).toNat - i)).map (fun (j : Nat) => W.int (x + i + j)) ∧ i ≤ (y - x).toNat ∧ d = [some f, some w, some (.int T), some (.int since), some (.int x), some (.int y), a6] ∧ ∀ n, x ≤ n → n < x + i → p n = false) ?_ ?_ _ _ m' ⟨rfl, 0, _, ?_, Nat.zero_le _, rfl, ?_⟩
      · rintro v2 ws2 d m2 ⟨rfl, i, a6', ew, hi, rfl, hno⟩ Q2 hQ2
        have hlt : i < (y - x).toNat := by
          apply Nat.lt_of_not_le
          intro z
          rw [show (y - x).toNat - i = 0 by omega] at ew
          cases ew
        rw [show (y - x).toNat - i = ((y - x).toNat - (i + 1)) + 1 by omega, List.range_succ_eq_map, List.map_cons] at ew
        simp only [List.cons.injEq] at ew
        obtain ⟨rfl, rfl⟩ := ew
        refine ⟨trivial, ?_⟩
        walk_at "fw"
        refine ht (x + i + (0 : Nat)) (by omega) (by omega) _ _ ?_
        simp only [truW]
        have ex : x + (i : Int) + ((0 : Nat) : Int) = x + i := by omega
        rw [ex]
        cases hpx : p (x + i) with
        | true =>
          simp only [if_true]
          exact hR (some (x + i)) (least_some T0 P B.pw hbm es hdn hno (by show x ≤ x + i; omega) (by show x + i < y; omega) hpx)
        | false =>
          simp only [Bool.false_eq_true, if_false]
          refine hQ2 _ _ ⟨rfl, i + 1, _, ?_, hlt, rfl, fun n h1 h2 => ?_⟩
          · rw [List.map_map]
            apply List.map_congr_left
            intro j _
            simp only [Function.comp]
            congr 1
            omega
          · by_cases hn : n < x + i
            · exact hno n h1 hn
            · rw [show n = x + i by omega]; exact hpx
      · rintro d m2 ⟨rfl, i, a6', ew, hi, rfl, hno⟩
        have : (y - x).toNat - i = 0 := by
          cases hq : (y - x).toNat - i with
          | zero => rfl
          | succ k => rw [hq] at ew; simp [List.range_succ_eq_map] at ew
        refine ⟨trivial, hQ _ _ ⟨rfl, dn ++ [(x, y)], rest, _, _, _, by rw [es]; simp, rfl, rfl, fun s hs n h1 h2 => ?_⟩⟩
        rcases List.mem_append.mp hs with hs | hs
        · exact hdn s hs n h1 h2
        · simp at hs; subst hs
          simp only at h1 h2
          exact hno n h1 (by omega)
      · unfold rangeW
        simp
      · intro n h1 h2
        have h2 : n < x + 0 := by simpa using h2
        omega
  · rintro d m' ⟨rfl, dn, rest, a4, a5, a6, es, ew, rfl, hdn⟩
    cases rest with
    | cons _ _ => cases ew
    | nil =>
      refine ⟨trivial, ?_⟩
      walk_at "fw"
      rw [List.append_nil] at es
      exact hR none (least_none T0 P B.pw hbm fun s hs n h1 h2 => hdn s (by rw [← es]; exact hs) n h1 h2)
end FW

namespace FW
open PySem PySem.Spec L2
local macro_rules | `(tactic| walk_at "fw") => `(tactic| simp only [startW, endW, sRet, sRetN, sNext, sSeq, sDrop, sIf, sAsg, sRaise, sPar, sBreak, sCont, gSet, gTupN, gsetN, gSub, oSet, wC, wVar, getS0, getSs, wOp, wUn, wAnd, wOr, wNot, wTru, wTAnd, wTOr, wTNot, wTB, wChain, wIf, wCB, wCall, wNil, wCons, wTup, wLst, wLstM, wDct, wSl, wP, wNoP, wBM, wIt, wRange1, wRange2, wLc, wLcM, sFor, Tgt.wg, Tgt.slots, wipeW, wLam, wCallV, wSortSet, wListZip, wZip, wMaxD, wLenSet, capsOf, lamW,
  List.map_cons, List.map_nil, List.length_cons, List.length_nil, List.replicate, List.append_nil, List.nil_append, List.cons_append, List.getElem?_cons_zero, List.getElem?_cons_succ, List.set_cons_zero, List.set_cons_succ, if_true, true_and, and_true])
theorem sum_parts : ∀ cs : List Cond, (cs.map partsC).sum = partsCs cs
  | [] => rfl
  | d :: r => by simp [partsCs, sum_parts r]
theorem parts_enc : ∀ (k : Nat) (c : Cond), okC k c → partsW k (enc c) = partsC c
  | 0, _, h => h.elim
  | k + 1, c, h => by
    rcases enc_parts h with ⟨l, rs, rfl⟩ | ⟨x, cs, e1, hx, _, _, h3, hne, h6, e3⟩
    · obtain ⟨most, h1, h2, h3, h4⟩ := h
      unfold enc partsC
      show (if (Str.ofString "in") = "in" then lookParts [.str l, .tup (rs.map encR)] else _) = 1
      rw [if_pos rfl]
      simp only [lookParts, h1]
      rw [if_pos (areRanges_enc h2 h3 h4)]
    · rw [e3]
      have hg : goodHead x (cs.length + 1) = true := by
        cases c with
        | look l rs =>
          unfold enc at e1
          simp only [W.tup.injEq, List.cons.injEq, W.str.injEq] at e1
          exact absurd e1.1.symm hx
        | neg c =>
          unfold enc at e1
          simp only [W.tup.injEq, List.cons.injEq, W.str.injEq] at e1
          obtain ⟨rfl, e1⟩ := e1
          have : cs.length = 1 := by
            have := congrArg List.length e1
            simpa using this.symm
          unfold goodHead
          simp [this]
        | many b ds =>
          unfold enc at e1
          rw [encs_map] at e1
          simp only [W.tup.injEq, List.cons.injEq, W.str.injEq] at e1
          obtain ⟨rfl, e1⟩ := e1
          have : cs.length = ds.length := by
            have := congrArg List.length e1
            simpa using this.symm
          have h1 := h.1
          unfold goodHead
          cases b <;> simp [this] <;> omega
      have em : (cs.map enc).map (partsW k) = cs.map partsC := by
        rw [List.map_map]
        exact List.map_congr_left fun d hd => parts_enc k d (h3 d hd)
      have es := sum_parts cs
      rw [e1]
      cases cs with
      | nil => exact absurd rfl hne
      | cons d r =>
        show (if x = "in" then _ else if goodHead x ((r.map enc).length + 2) = true then (if 0 ∈ ((d :: r).map enc).map (partsW k) then 0 else 1 + (((d :: r).map enc).map (partsW k)).sum) else 0) = _
        rw [if_neg hx, em, es]
        have hg' : goodHead x ((r.map enc).length + 2) = true := by
          rw [List.length_map]
          simpa using hg
        rw [if_pos hg', if_neg]
        intro h0
        obtain ⟨c', _, hc'⟩ := List.mem_map.mp h0
        have := partsC_pos c'
        omega
theorem isCond_enc {c : Cond} (h : okC 6 c) : isCond (enc c) = decide (partsC c ≤ 60) := by
  unfold isCond
  rw [parts_enc 6 c h]
  have := partsC_pos c
  simp
  omega
mutual
def endC : Cond → Int
  | .look l rs => if l = "all" then lastHi (-1) rs + 1 else 0
  | .neg c => endC c
  | .many _ cs => endCs cs
def endCs : List Cond → Int
  | [] => 0
  | c :: r => max (endC c) (endCs r)
end
theorem lastHi_ge {most : Int} : ∀ {rs : List (Int × Int)} {a : Int}, rsOk most a rs → a ≤ lastHi a rs ∧ (∀ r ∈ rs, r.1 ≤ lastHi a rs ∧ r.2 ≤ lastHi a rs) ∧ (rs ≠ [] → lastHi a rs ≤ most)
  | [], a, _ => ⟨Int.le_refl _, by simp, fun h => absurd rfl h⟩
  | (u, v) :: rs, a, ⟨g1, g2, g3, g4⟩ => by
    obtain ⟨h1, h2, h3⟩ := lastHi_ge (rs := rs) (a := v) g4
    refine ⟨by show a ≤ lastHi v rs; omega, fun r hr => ?_, fun _ => ?_⟩
    · show r.1 ≤ lastHi v rs ∧ r.2 ≤ lastHi v rs
      rcases List.mem_cons.mp hr with rfl | hr
      · exact ⟨by show u ≤ _; omega, h1⟩
      · exact h2 r hr
    · show lastHi v rs ≤ most
      cases rs with
      | nil => exact g3
      | cons q r => exact h3 (by simp)
theorem endC_ok : ∀ (k : Nat) (c : Cond), okC k c → 0 ≤ endC c ∧ endC c ≤ 1000001 ∧ ∀ e ∈ edgesC c, e ≤ endC c
  | 0, _, h => h.elim
  | k + 1, .look l rs, h => by
    obtain ⟨most, h1, h2, h3, h4⟩ := h
    have hm := lookTop_le h1
    obtain ⟨g1, g2, g3⟩ := lastHi_ge h4
    have g4 := g3 (by rintro rfl; simp at h2)
    unfold endC edgesC
    by_cases hl : l = "all"
    · rw [if_pos hl, if_pos hl]
      refine ⟨by omega, by omega, fun e he => ?_⟩
      rcases List.mem_append.mp he with he | he
      · obtain ⟨r, hr, rfl⟩ := List.mem_map.mp he
        have := (g2 r hr).1
        show r.1 ≤ _
        omega
      · obtain ⟨r, hr, rfl⟩ := List.mem_map.mp he
        have := (g2 r hr).2
        show r.2 + 1 ≤ _
        omega
    · rw [if_neg hl, if_neg hl]
      exact ⟨by decide, by decide, by simp⟩
  | k + 1, .neg c, h => by unfold endC edgesC; exact endC_ok k c h
  | k + 1, .many b cs, h => by
    unfold endC edgesC
    have : ∀ l : List Cond, (∀ d ∈ l, okC k d) → 0 ≤ endCs l ∧ endCs l ≤ 1000001 ∧ ∀ e ∈ edgesCs l, e ≤ endCs l := by
      intro l
      induction l with
      | nil => intro _; exact ⟨by decide, by decide, by simp [edgesCs]⟩
      | cons d r ih =>
        intro hd
        obtain ⟨a1, a2, a3⟩ := endC_ok k d (hd d (by simp))
        obtain ⟨b1, b2, b3⟩ := ih fun c hc => hd c (by simp [hc])
        unfold endCs edgesCs
        refine ⟨by omega, by omega, fun e he => ?_⟩
        rcases List.mem_append.mp he with he | he
        · have := a3 e he; omega
        · have := b3 e he; omega
    exact this cs h.2.2
theorem edges_le {k : Nat} {c : Cond} (h : okC k c) {e : Int} (he : e ∈ edgesC c) : e ≤ 1000001 := by
  obtain ⟨_, h2, h3⟩ := endC_ok k c h
  have := h3 e he
  omega
/-- the least number lies ahead of the end and a turn -/
theorem least_lt {p : Int → Bool} {cuts : List Int} {T E since x : Int} (hT : 0 < T) (P : Per p cuts T) (hE : ∀ e ∈ cuts, e ≤ E) (h : LeastIs p since (some x)) : x < max since E + T := by
  obtain ⟨h1, h2, h3⟩ := h
  apply Int.lt_of_not_ge
  intro hx
  have := P (x - T) x (by omega) ⟨1, by omega⟩ fun e he hh => by
    have := hE e he
    omega
  have h4 := h3 (x - T) (by omega) (by omega)
  rw [this, h2] at h4
  cases h4
theorem cond_of {w : W} (h : isCond w = true) : ∃ c, w = enc c ∧ okC 6 c ∧ partsC c ≤ 60 := by
  have h' := h
  unfold isCond at h
  simp only [Bool.and_eq_true, decide_eq_true_eq] at h
  obtain ⟨c, rfl, hok⟩ := dec_ok 6 w h.1
  rw [isCond_enc hok] at h'
  exact ⟨c, rfl, hok, by simpa using h'⟩
theorem num_of {s : W} {lo hi : Int} (h : isNum lo hi s = true) : ∃ n, s = .int n ∧ lo ≤ n ∧ n ≤ hi := by
  obtain ⟨n, rfl⟩ := isNum_int h
  simp only [isNum, Bool.and_eq_true, decide_eq_true_eq] at h
  exact ⟨n, rfl, h.1, h.2⟩
end FW

namespace FW
open PySem PySem.Spec L2
local macro_rules | `(tactic| walk_at "fw") => `(tactic| simp only [startW, endW, sRet, sRetN, sNext, sSeq, sDrop, sIf, sAsg, sRaise, sPar, sBreak, sCont, gSet, gTupN, gsetN, gSub, oSet, wC, wVar, getS0, getSs, wOp, wUn, wAnd, wOr, wNot, wTru, wTAnd, wTOr, wTNot, wTB, wChain, wIf, wCB, wCall, wNil, wCons, wTup, wLst, wLstM, wDct, wSl, wP, wNoP, wBM, wIt, wRange1, wRange2, wLc, wLcM, sFor, Tgt.wg, Tgt.slots, wipeW, wLam, wCallV, wSortSet, wListZip, wZip, wMaxD, wLenSet, capsOf, lamW,
  List.map_cons, List.map_nil, List.length_cons, List.length_nil, List.replicate, List.append_nil, List.nil_append, List.cons_append, List.getElem?_cons_zero, List.getElem?_cons_succ, List.set_cons_zero, List.set_cons_succ, if_true, true_and, and_true])
theorem encR_inj : ∀ {rs rs' : List (Int × Int)}, rs.map encR = rs'.map encR → rs = rs'
  | [], [], _ => rfl
  | [], _ :: _, h => by cases h
  | _ :: _, [], h => by cases h
  | a :: r, b :: s, h => by
    simp only [List.map_cons, List.cons.injEq] at h
    obtain ⟨h1, h2⟩ := h
    unfold encR at h1
    simp only [W.tup.injEq, List.cons.injEq, W.int.injEq, and_true] at h1
    rw [encR_inj h2, Prod.ext h1.1 h1.2]
mutual
theorem enc_inj : ∀ c d : Cond, enc c = enc d → c = d
  | .look l rs, .look l' rs', h => by
    unfold enc at h
    simp only [W.tup.injEq, List.cons.injEq, W.str.injEq, and_true, true_and] at h
    rw [h.1, encR_inj h.2]
  | .look l rs, .neg c, h => by unfold enc at h; simp at h
  | .look l rs, .many b cs, h => by unfold enc at h; cases b <;> simp at h
  | .neg c, .look l rs, h => by unfold enc at h; simp at h
  | .neg c, .neg d, h => by
    unfold enc at h
    simp only [W.tup.injEq, List.cons.injEq, and_true, true_and] at h
    rw [enc_inj c d h]
  | .neg c, .many b cs, h => by unfold enc at h; cases b <;> simp at h
  | .many b cs, .look l rs, h => by unfold enc at h; cases b <;> simp at h
  | .many b cs, .neg c, h => by unfold enc at h; cases b <;> simp at h
  | .many b cs, .many b' ds, h => by
    unfold enc at h
    simp only [W.tup.injEq, List.cons.injEq, W.str.injEq] at h
    have hb : b = b' := by cases b <;> cases b' <;> first | rfl | (exfalso; have := h.1; simp at this)
    rw [hb, encs_inj cs ds h.2]
theorem encs_inj : ∀ cs ds : List Cond, encs cs = encs ds → cs = ds
  | [], [], _ => rfl
  | [], _ :: _, h => by unfold encs at h; cases h
  | _ :: _, [], h => by unfold encs at h; cases h
  | c :: cs, d :: ds, h => by
    unfold encs at h
    simp only [List.cons.injEq] at h
    rw [enc_inj c d h.1, encs_inj cs ds h.2]
end
end FW

namespace FW
open PySem PySem.Spec L2
local macro_rules | `(tactic| walk_at "fw") => `(tactic| simp only [startW, endW, sRet, sRetN, sNext, sSeq, sDrop, sIf, sAsg, sRaise, sPar, sBreak, sCont, gSet, gTupN, gsetN, gSub, oSet, wC, wVar, getS0, getSs, wOp, wUn, wAnd, wOr, wNot, wTru, wTAnd, wTOr, wTNot, wTB, wChain, wIf, wCB, wCall, wNil, wCons, wTup, wLst, wLstM, wDct, wSl, wP, wNoP, wBM, wIt, wRange1, wRange2, wLc, wLcM, sFor, Tgt.wg, Tgt.slots, wipeW, wLam, wCallV, wSortSet, wListZip, wZip, wMaxD, wLenSet, capsOf, lamW,
  List.map_cons, List.map_nil, List.length_cons, List.length_nil, List.replicate, List.append_nil, List.nil_append, List.cons_append, List.getElem?_cons_zero, List.getElem?_cons_succ, List.set_cons_zero, List.set_cons_succ, if_true, true_and, and_true])
theorem e_op1 {f : WO} {a b : WE} {d : List (Option W)} {m : Sto} {R : WR} {Z : WZ} (h : a d m (fun x m1 => b d m1 (fun y m2 => f x y m2 R) Z) Z) : wOp f a b d m R Z := h
end FW

namespace FW
open PySem PySem.Spec L2
def N_many_of : List Str := ["test", "cuts", "turn", "low", "high", "begins", "found", "begin", "end", "row", "turns", "rest", "cut", "number"]
/-- many_of -/
def t_many_of (F : W) (c_test : Con) : WS := (sSeq (sIf (wTB (wOp oGt (wVar 3) (wVar 4))) (sRet (wC (.int 0))) sNext)
    (sSeq (sAsg (wOp oAdd (wLst (wCons (wVar 3) wNil)) (wLc (wIt (wSortSet (wVar 1))) (.nm 12) (wTB (wChain oLt oLe (wVar 3) (wVar 12) (wVar 4))) (wVar 12))) (gSet 5))
    (sSeq (sAsg (wC (.int 0)) (gSet 6))
    (sSeq (sFor (wZip (wCons (wVar 5) (wCons (wOp oAdd (wSl (wVar 5) (wP (wC (.int 1))) wNoP) (wLst (wCons (wOp oAdd (wVar 4) (wC (.int 1))) wNil))) wNil))) (Tgt.tp [7, 8]).wg (sSeq (sAsg (wCB fDivmod (wCons (wOp oSub (wVar 8) (wVar 7)) (wCons (wVar 2) wNil))) (gTupN [10, 11]))
    (sSeq (sAsg (wLc (wRange2 (wCons (wVar 7) (wCons (wCB fMin (wCons (wVar 8) (wCons (wOp oAdd (wVar 7) (wVar 2)) wNil))) wNil))) (.nm 13) wYes (wCB fInt (wCons (wCallV 0 F 1 c_test (wCons (wVar 13) wNil)) wNil))) (gSet 9))
    (sAsg (wOp oAdd (wOp oAdd (wVar 6) (wOp oMul (wVar 10) (wCB fSum (wCons (wVar 9) wNil)))) (wCB fSum (wCons (wSl (wVar 9) wNoP (wP (wVar 11))) wNil))) (gSet 6)))))
    (sRet (wVar 6))))))
end FW

namespace FW
open PySem PySem.Spec L2
local macro_rules | `(tactic| walk_at "fw") => `(tactic| simp only [startW, endW, sRet, sRetN, sNext, sSeq, sDrop, sIf, sAsg, sRaise, sPar, sBreak, sCont, gSet, gTupN, gsetN, gSub, oSet, wC, wVar, getS0, getSs, wOp, wUn, wAnd, wOr, wNot, wTru, wTAnd, wTOr, wTNot, wTB, wChain, wIf, wCB, wCall, wNil, wCons, wTup, wLst, wLstM, wDct, wSl, wP, wNoP, wBM, wIt, wRange1, wRange2, wLc, wLcM, sFor, Tgt.wg, Tgt.slots, wipeW, wLam, wCallV, wSortSet, wListZip, wZip, wMaxD, wLenSet, capsOf, lamW,
  List.map_cons, List.map_nil, List.length_cons, List.length_nil, List.replicate, List.append_nil, List.nil_append, List.cons_append, List.getElem?_cons_zero, List.getElem?_cons_succ, List.set_cons_zero, List.set_cons_succ, if_true, true_and, and_true])
def b2i (b : Bool) : Int := if b then 1 else 0
/-- how many of n numbers from lo on -/
def cntN (p : Int → Bool) (lo : Int) : Nat → Int
  | 0 => 0
  | n + 1 => cntN p lo n + b2i (p (lo + n))
theorem cntN_add (p : Int → Bool) (lo : Int) (a : Nat) : ∀ b : Nat, cntN p lo (a + b) = cntN p lo a + cntN p (lo + a) b
  | 0 => by simp [cntN]
  | b + 1 => by
    show cntN p lo (a + b) + b2i (p (lo + ((a + b : Nat) : Int))) = cntN p lo a + (cntN p (lo + a) b + b2i (p (lo + a + b)))
    rw [cntN_add p lo a b, show lo + ((a + b : Nat) : Int) = lo + a + b by omega]
    omega
theorem cntN_congr {p q : Int → Bool} {lo lo' : Int} : ∀ {n : Nat}, (∀ i : Nat, i < n → p (lo + i) = q (lo' + i)) → cntN p lo n = cntN q lo' n
  | 0, _ => rfl
  | n + 1, h => by
    show cntN p lo n + b2i (p (lo + n)) = cntN q lo' n + b2i (q (lo' + n))
    rw [cntN_congr fun i hi => h i (by omega), h n (by omega)]
theorem cntN_bounds (p : Int → Bool) (lo : Int) : ∀ n : Nat, 0 ≤ cntN p lo n ∧ cntN p lo n ≤ n
  | 0 => ⟨Int.le_refl _, Int.le_refl _⟩
  | n + 1 => by
    have := cntN_bounds p lo n
    show 0 ≤ cntN p lo n + b2i (p (lo + n)) ∧ cntN p lo n + b2i (p (lo + n)) ≤ ((n + 1 : Nat) : Int)
    unfold b2i
    split <;> omega
theorem cntN_sum (p : Int → Bool) (lo : Int) : ∀ n : Nat, ((List.range n).map fun (i : Nat) => b2i (p (lo + (i : Int)))).sum = cntN p lo n
  | 0 => rfl
  | n + 1 => by
    rw [List.range_succ, List.map_append, List.sum_append, cntN_sum p lo n]
    simp [cntN]
/-- what comes again after T -/
theorem cntN_turns {p : Int → Bool} {lo : Int} {T : Nat} (hT : 0 < T) : ∀ n : Nat, (∀ i : Nat, i + T < n → p (lo + i) = p (lo + (i + T : Nat))) →
    cntN p lo n = ((n / T : Nat) : Int) * cntN p lo (min n T) + cntN p lo (n % T) := by
  intro n
  induction n using Nat.strongRecOn with
  | _ n ih =>
    intro h
    by_cases hn : n < T
    · rw [Nat.div_eq_of_lt hn, Nat.mod_eq_of_lt hn]
      simp
    · have e1 : cntN p lo n = cntN p lo T + cntN p (lo + T) (n - T) := by
        rw [← cntN_add]
        congr 1
        omega
      have e2 : cntN p (lo + T) (n - T) = cntN p lo (n - T) := cntN_congr fun i hi => by
        rw [h i (by omega)]
        congr 1
        omega
      have e3 := ih (n - T) (by omega) fun i hi => h i (by omega)
      have e4 : n / T = (n - T) / T + 1 := by
        rw [Nat.div_eq, if_pos ⟨hT, by omega⟩]
      have e5 : n % T = (n - T) % T := by
        rw [Nat.mod_eq, if_pos ⟨hT, by omega⟩]
      rw [e1, e2, e3, e4, e5, Nat.min_eq_right (show T ≤ n by omega)]
      by_cases h2 : n - T < T
      · rw [Nat.div_eq_of_lt h2]
        simp
      · rw [Nat.min_eq_right (show T ≤ n - T by omega)]
        rw [show (((n - T) / T + 1 : Nat) : Int) = ((n - T) / T : Nat) + 1 by omega, Int.add_mul]
        omega
/-- from low to high -/
def cntI (p : Int → Bool) (lo hi : Int) : Int := cntN p lo (hi + 1 - lo).toNat
theorem cntI_add {p : Int → Bool} {lo mid hi : Int} (h1 : lo ≤ mid + 1) (h2 : mid ≤ hi) : cntI p lo hi = cntI p lo mid + cntI p (mid + 1) hi := by
  unfold cntI
  have := cntN_add p lo (mid + 1 - lo).toNat (hi + 1 - (mid + 1)).toNat
  rw [show (mid + 1 - lo).toNat + (hi + 1 - (mid + 1)).toNat = (hi + 1 - lo).toNat by omega, show lo + ((mid + 1 - lo).toNat : Int) = mid + 1 by omega] at this
  exact this
theorem cntI_none {p : Int → Bool} {lo hi : Int} (h : hi < lo) : cntI p lo hi = 0 := by
  unfold cntI
  rw [show (hi + 1 - lo).toNat = 0 by omega]
  rfl
def h_many_of : W → Con → Con := fun F con ws m R _ => match ws with
  | [f, w, .int T, .int lo, .int hi] => f = F ∧ ∃ (p : Int → Bool) (cuts : List Int), lintOf m w = some cuts ∧ cuts.length ≤ 4000 ∧ 0 < T ∧ T ≤ 1000 ∧ 0 ≤ lo ∧ lo ≤ 10 ^ 16 ∧ 0 ≤ hi ∧ hi ≤ 10 ^ 16 ∧ Per p cuts T ∧ Tests p lo m con ∧ R (.int (cntI p lo hi)) m
  | _ => False
theorem row_sum {p : Int → Bool} {lo : Int} (n r : Nat) (h : r ≤ n) (m : Sto) : lintOf m (.lst (((List.range n).map fun (i : Nat) => W.int (b2i (p (lo + (i : Int)))))) ) = some ((List.range n).map fun (i : Nat) => b2i (p (lo + (i : Int)))) ∧
    lintOf m (.lst (cutW ((List.range n).map fun (i : Nat) => W.int (b2i (p (lo + (i : Int))))) none (some (r : Int)))) = some ((List.range r).map fun (i : Nat) => b2i (p (lo + (i : Int)))) := by
  have e : ∀ k : Nat, ((List.range k).map fun (i : Nat) => W.int (b2i (p (lo + (i : Int))))) = (((List.range k).map fun (i : Nat) => b2i (p (lo + (i : Int)))).map W.int) := fun k => by rw [List.map_map]; rfl
  refine ⟨?_, ?_⟩
  · rw [e]; exact intsW_map _
  · have e2 : cutW ((List.range n).map fun (i : Nat) => W.int (b2i (p (lo + (i : Int))))) none (some (r : Int)) = (List.range r).map fun (i : Nat) => W.int (b2i (p (lo + (i : Int)))) := by
      unfold cutW
      have a1 : HT.sIx ((List.range n).map fun (i : Nat) => W.int (b2i (p (lo + (i : Int))))).length 0 none = 0 := rfl
      have a2 : HT.sIx ((List.range n).map fun (i : Nat) => W.int (b2i (p (lo + (i : Int))))).length ((List.range n).map fun (i : Nat) => W.int (b2i (p (lo + (i : Int))))).length (some (r : Int)) = r := by
        have q : ¬ ((r : Int) < 0) := by omega
        simp [HT.sIx, q]
        omega
      rw [a1, a2, List.drop_zero, Nat.sub_zero, ← List.map_take, List.take_range, Nat.min_eq_left h]
    rw [e2, e]
    exact intsW_map _
theorem b_many_of : ∀ (F : W) (con : Con) ws m R Z, ws.length = 5 → h_many_of F con ws m R Z → t_many_of F con (endW R Z) (startW N_many_of ws) m := by
  intro F con ws m R Z hl h
  obtain ⟨f, w, b, c, d, rfl⟩ := five hl
  cases b <;> try exact h.elim
  cases c <;> try exact h.elim
  cases d <;> try exact h.elim
  rename_i T lo hi
  obtain ⟨hF, p, cuts, hw, hlen, T0, T1, l0, l1, g0, g1, P, ht, hR⟩ := h
  subst hF
  have p61 : (2 : Int) ^ 61 = 2305843009213693952 := by decide
  have h62 := p62
  have h64 := p64'
  have p16 : (10 : Int) ^ 16 = 10000000000000000 := by decide
  unfold t_many_of N_many_of
  have e0 : startW ["test", "cuts", "turn", "low", "high", "begins", "found", "begin", "end", "row", "turns", "rest", "cut", "number"] [f, w, W.int T, W.int lo, W.int hi] = [some f, some w, some (.int T), some (.int lo), some (.int hi), none, none, none, none, none, none, none, none, none] := rfl
  rw [e0]
  by_cases hlh : hi < lo
  · refine q_yes m (fun K hK => ?_) ?_
    · walk_at "fw"
      simpa [oGt, oLt, hlh] using hK
    rw [cntI_none hlh] at hR
    walk_at "fw"
    exact hR
  refine q_skip m (fun K hK => ?_) ?_
  · walk_at "fw"
    simpa [oGt, oLt, hlh] using hK
  -- the begins
  have first : ∀ u : WS, (∀ tl : List Int, (lo :: tl).Pairwise (· < ·) → (∀ e, e ∈ tl ↔ e ∈ cuts ∧ lo < e ∧ e ≤ hi) → tl.length ≤ 4000 → u (endW R Z) [some f, some w, some (.int T), some (.int lo), some (.int hi), some (.lst ((lo :: tl).map W.int)), none, none, none, none, none, none, none, none] m) →
      sSeq (sAsg (wOp oAdd (wLst (wCons (wVar 3) wNil)) (wLc (wIt (wSortSet (wVar 1))) (.nm 12) (wTB (wChain oLt oLe (wVar 3) (wVar 12) (wVar 4))) (wVar 12))) (gSet 5)) u (endW R Z) [some f, some w, some (.int T), some (.int lo), some (.int hi), none, none, none, none, none, none, none, none, none] m := by
    intro u hu
    walk_at "fw"
    simp only [hw]
    refine ⟨by decide, hlen, fun ns h1 h2 => ?_⟩
    have nl : ns.length ≤ 4000 := Nat.le_trans (pw_nodup_le h1 h2) hlen
    refine lc_encF W.int (fun n => decide (lo < n) && decide (n ≤ hi)) trivial ns [] (size_ok (by simp; omega)) (fun n hn K K2 hK hK2 => ?_) ?_
    · walk_at "fw"
      simp only [oLt, oLe]
      cases e : decide (lo < n) <;> cases e' : decide (n ≤ hi)
      · simpa using hK2 (by simp [e, e'])
      · simpa using hK2 (by simp [e, e'])
      · simpa using hK2 (by simp [e, e'])
      · simpa using hK (by simp [e, e'])
    · simp only [List.nil_append, oAdd, lstOfT]
      have fl := List.length_filter_le (fun n => decide (lo < n) && decide (n ≤ hi)) ns
      refine ⟨size_ok (by simp; omega), ?_⟩
      have hp : (lo :: ns.filter fun n => decide (lo < n) && decide (n ≤ hi)).Pairwise (· < ·) := by
        refine List.pairwise_cons.mpr ⟨fun a ha => ?_, h1.filter _⟩
        have := (List.mem_filter.mp ha).2
        simp at this
        exact this.1
      have := hu (ns.filter fun n => decide (lo < n) && decide (n ≤ hi)) hp (fun e => by rw [List.mem_filter, h2 e]; simp) (by omega)
      rw [List.map_cons] at this
      exact this
  refine first _ fun tl hpw hmem tlen => ?_
  refine q_asg (.int 0) m (fun K hK => hK) ?_
  refine r_seq ?_
  walk_at "fw"
  simp only [oSl, lstOf, List.map_cons, cutW_1, oAdd, lstOfT]
  refine ⟨by decide, size_ok (by simp; omega), ?_⟩
  refine for_inv (I := fun ws d m' => m' = m ∧ ∃ (fo : Int), ∃ a7 a8 a9 a10 a11 a12 a13, d = [some f, some w, some (.int T), some (.int lo), some (.int hi), some (.lst (.int lo :: tl.map W.int)), some (.int fo), a7, a8, a9, a10, a11, a12, a13] ∧
      ((ws = [] ∧ fo = cntI p lo hi) ∨ ∃ b tl', ws = zipP (.int b :: tl'.map W.int) (tl'.map W.int ++ [.int (hi + 1)]) ∧ lo ≤ b ∧ (b :: tl').Pairwise (· < ·) ∧ (∀ e ∈ b :: tl', e ≤ hi) ∧ (∀ e ∈ cuts, b < e → e ≤ hi → e ∈ tl') ∧ fo = cntI p lo (b - 1))) ?_ ?_ _ _ m ?_
  · rintro v ws d m' ⟨rfl, fo, a7, a8, a9, a10, a11, a12, a13, rfl, hcase⟩ Q hQ
    rcases hcase with ⟨hnil, _⟩ | ⟨b, tl', ew, hb, hp', hle, hcu, hfo⟩
    · cases hnil
    have hbh : b ≤ hi := hle b (by simp)
    -- the end of this stretch
    obtain ⟨e, rest, hv, hrest, hbe, heh, hnext, hnocut⟩ : ∃ (e : Int) (rest : List W), v = .tpu [.int b, .int e] ∧ ws = rest ∧ b < e ∧ e ≤ hi + 1 ∧
        ((rest = [] ∧ e = hi + 1) ∨ ∃ tl2, rest = zipP (.int e :: tl2.map W.int) (tl2.map W.int ++ [.int (hi + 1)]) ∧ (e :: tl2).Pairwise (· < ·) ∧ (∀ x ∈ e :: tl2, x ≤ hi) ∧ (∀ x ∈ cuts, e < x → x ≤ hi → x ∈ tl2)) ∧
        (∀ x ∈ cuts, ¬ (b < x ∧ x < e)) := by
      cases tl' with
      | nil =>
        simp only [List.map_nil, List.nil_append, zipP, List.cons.injEq] at ew
        refine ⟨hi + 1, ws, ew.1, rfl, by omega, Int.le_refl _, .inl ⟨ew.2, rfl⟩, fun x hx hh => ?_⟩
        have := hcu x hx hh.1 (by omega)
        cases this
      | cons b' r =>
        simp only [List.map_cons, List.cons_append, zipP, List.cons.injEq] at ew
        have hlt := (List.pairwise_cons.mp hp').1 b' (by simp)
        have hp2 := (List.pairwise_cons.mp hp').2
        have hb' := hle b' (by simp)
        refine ⟨b', ws, ew.1, rfl, hlt, by omega, .inr ⟨r, ew.2, hp2, fun x hx => hle x (List.mem_cons_of_mem _ hx), fun x hx h1 h2 => ?_⟩, fun x hx hh => ?_⟩
        · rcases List.mem_cons.mp (hcu x hx (by omega) h2) with rfl | h
          · omega
          · exact h
        · rcases List.mem_cons.mp (hcu x hx hh.1 (by omega)) with rfl | h
          · omega
          · have := (List.pairwise_cons.mp hp2).1 x h
            omega
    subst hv
    refine ⟨⟨trivial, trivial⟩, ?_⟩
    walk_at "fw"
    simp only [oSub, fDivmod]
    refine ⟨T0, by omega, ?_⟩
    walk_at "fw"
    simp only [oAdd, fMin]
    -- the row
    have hTn : (T.toNat : Int) = T := by omega
    generalize hn : (e - b).toNat = n
    have hn' : (n : Int) = e - b := by omega
    have hmn : ((if b + T < e then b + T else e) - b).toNat = min n T.toNat := by split <;> omega
    refine ⟨by omega, by omega, by split <;> omega, by split <;> omega, ?_⟩
    rw [hmn]
    have hr0 : rangeW b (min n T.toNat) = (List.range (min n T.toNat)).map fun (i : Nat) => W.int (b + (i : Int)) := rfl
    rw [hr0]
    refine lc_enc (fun (i : Nat) => W.int (b + (i : Int))) (fun i => W.int (b2i (p (b + (i : Int))))) trivial (List.range (min n T.toNat)) [] (size_ok (by simp; omega)) (fun i hi' K hK => ?_) ?_
    · walk_at "fw"
      have := List.mem_range.mp hi'
      refine ht (b + i) (by omega) (by omega) _ _ ?_
      simp only [fInt]
      exact hK
    rw [List.nil_append]
    have hrm : (e - b) % T = ((n % T.toNat : Nat) : Int) := by rw [← hn', Int.natCast_emod, hTn]
    have hrd : (e - b) / T = ((n / T.toNat : Nat) : Int) := by rw [← hn', Int.natCast_ediv, hTn]
    have hT' : 0 < T.toNat := by omega
    have hrle : n % T.toNat ≤ min n T.toNat := by
      have := Nat.mod_lt n hT'
      have := Nat.mod_le n T.toNat
      omega
    rw [hrm, hrd]
    obtain ⟨s1, s2⟩ := row_sum (p := p) (lo := b) (min n T.toNat) (n % T.toNat) hrle m'
    have hk := cntN_turns (p := p) (lo := b) hT' n fun i hi' => P _ _ (by omega) ⟨1, by omega⟩ fun x hx hh => hnocut x hx ⟨by omega, by omega⟩
    have bd := cntN_bounds p b (min n T.toNat)
    simp only [fSum, s1, s2, oMul, oSl, lstOf, cntN_sum]
    refine ⟨.inl (.inr ⟨by omega, by omega⟩), ?_⟩
    rw [Int.add_assoc, ← hk]
    have hfo' : fo + cntN p b n = cntI p lo (e - 1) := by
      have := cntI_add (p := p) (lo := lo) (mid := b - 1) (hi := e - 1) (by omega) (by omega)
      rw [this, ← hfo, show b - 1 + 1 = b by omega]
      unfold cntI
      rw [show (e - 1 + 1 - b).toNat = n by omega]
    refine hQ _ _ ⟨rfl, _, _, _, _, _, _, _, _, rfl, ?_⟩
    rcases hnext with ⟨hr1, hr2⟩ | ⟨tl2, hr1, hr2, hr3, hr4⟩
    · refine .inl ⟨by rw [hrest, hr1], ?_⟩
      rw [hfo', hr2]
      congr 1
      omega
    · exact .inr ⟨e, tl2, by rw [hrest, hr1], by omega, hr2, hr3, hr4, hfo'⟩
  · rintro d m' ⟨rfl, fo, a7, a8, a9, a10, a11, a12, a13, rfl, hcase⟩
    refine ⟨⟨trivial, trivial⟩, ?_⟩
    walk_at "fw"
    rcases hcase with ⟨_, rfl⟩ | ⟨b, tl', ew, _⟩
    · exact hR
    · exfalso
      cases tl' with
      | nil => simp [zipP] at ew
      | cons _ _ => simp [zipP] at ew
  · refine ⟨rfl, 0, _, _, _, _, _, _, _, rfl, .inr ⟨lo, tl, rfl, Int.le_refl _, hpw, fun e he => ?_, fun e he h1 h2 => (hmem e).mpr ⟨he, h1, h2⟩, ?_⟩⟩
    · rcases List.mem_cons.mp he with rfl | he
      · omega
      · exact ((hmem e).mp he).2.2
    · rw [cntI_none (by omega)]
end FW

namespace FW
open PySem PySem.Spec L2
local macro_rules | `(tactic| walk_at "fw") => `(tactic| simp only [startW, endW, sRet, sRetN, sNext, sSeq, sDrop, sIf, sAsg, sRaise, sPar, sBreak, sCont, gSet, gTupN, gsetN, gSub, oSet, wC, wVar, getS0, getSs, wOp, wUn, wAnd, wOr, wNot, wTru, wTAnd, wTOr, wTNot, wTB, wChain, wIf, wCB, wCall, wNil, wCons, wTup, wLst, wLstM, wDct, wSl, wP, wNoP, wBM, wIt, wRange1, wRange2, wLc, wLcM, sFor, Tgt.wg, Tgt.slots, wipeW, wLam, wCallV, wSortSet, wListZip, wZip, wMaxD, wLenSet, capsOf, lamW,
  List.map_cons, List.map_nil, List.length_cons, List.length_nil, List.replicate, List.append_nil, List.nil_append, List.cons_append, List.getElem?_cons_zero, List.getElem?_cons_succ, List.set_cons_zero, List.set_cons_succ, if_true, true_and, and_true])
mutual
theorem noRef_enc : ∀ c : Cond, noRef (enc c) = true
  | .look l rs => by
    unfold enc
    simp only [noRef, noRefs, Bool.and_true, Bool.true_and]
    induction rs with
    | nil => rfl
    | cons r rs ih => simp only [List.map_cons, noRefs, ih, encR, noRef, Bool.and_true]
  | .neg c => by unfold enc; simp only [noRef, noRefs, noRef_enc c, Bool.and_true]
  | .many b cs => by unfold enc; simp only [noRef, noRefs, noRef_encs cs, Bool.and_true]
theorem noRef_encs : ∀ cs : List Cond, noRefs (encs cs) = true
  | [] => rfl
  | c :: r => by unfold encs; simp only [noRefs, noRef_enc c, noRef_encs r, Bool.and_true]
end
theorem okC_up : ∀ {k : Nat} {c : Cond}, okC k c → okC (k + 1) c
  | 0, _, h => h.elim
  | k + 1, .look l rs, h => h
  | k + 1, .neg c, h => okC_up (k := k) (c := c) h
  | k + 1, .many b cs, h => ⟨h.1, h.2.1, fun c hc => okC_up (h.2.2 c hc)⟩
theorem okC_mono {k k' : Nat} {c : Cond} (h : okC k c) (hk : k ≤ k') : okC k' c := by
  obtain ⟨d, rfl⟩ : ∃ d, k' = k + d := ⟨k' - k, by omega⟩
  clear hk
  induction d with
  | zero => exact h
  | succ d ih => exact okC_up ih
/-- good for the doors -/
def GoodC (c : Cond) : Prop := okC 6 c ∧ partsC c ≤ 60
theorem GoodC.is {c : Cond} (h : GoodC c) : isCond (enc c) = true := by rw [isCond_enc h.1]; exact decide_eq_true h.2
theorem enc_not (c : Cond) : W.tup [.str "not", enc c] = enc (.neg c) := by conv => rhs; unfold enc
theorem q_asgP {e : WE} {i : Nat} {u : WS} {T : EW} {d : List (Option W)} {m : Sto} (Post : W → Sto → Prop) (h : ∀ K : WR, (∀ v m', Post v m' → K v m') → e d m K T.ex) (k : ∀ v m', Post v m' → u T (d.set i (some v)) m') : sSeq (sAsg e (gSet i)) u T d m := h _ k
end FW

namespace FW
open PySem PySem.Spec L2
end FW

namespace FW
open PySem PySem.Spec L2
local macro_rules | `(tactic| walk_at "fw") => `(tactic| simp only [startW, endW, sRet, sRetN, sNext, sSeq, sDrop, sIf, sAsg, sRaise, sPar, sBreak, sCont, gSet, gTupN, gsetN, gSub, oSet, wC, wVar, getS0, getSs, wOp, wUn, wAnd, wOr, wNot, wTru, wTAnd, wTOr, wTNot, wTB, wChain, wIf, wCB, wCall, wNil, wCons, wTup, wLst, wLstM, wDct, wSl, wP, wNoP, wBM, wIt, wRange1, wRange2, wLc, wLcM, sFor, Tgt.wg, Tgt.slots, wipeW, wLam, wCallV, wSortSet, wListZip, wZip, wMaxD, wLenSet, capsOf, lamW,
  List.map_cons, List.map_nil, List.length_cons, List.length_nil, List.replicate, List.append_nil, List.nil_append, List.cons_append, List.getElem?_cons_zero, List.getElem?_cons_succ, List.set_cons_zero, List.set_cons_succ, if_true, true_and, and_true])
/-- what is drawn: up to three ranges, up to three parts -/
def drC : Nat → Cond → Prop
  | 0, _ => False
  | d + 1, .look l rs => ∃ most, lookTop l = some most ∧ 1 ≤ rs.length ∧ rs.length ≤ 3 ∧ rsOk most (-1) rs
  | d + 1, .neg c => drC d c
  | d + 1, .many _ cs => 2 ≤ cs.length ∧ cs.length ≤ 3 ∧ ∀ c ∈ cs, drC d c
theorem drC_ok : ∀ {d : Nat} {c : Cond}, drC d c → okC d c
  | 0, _, h => h.elim
  | d + 1, .look l rs, ⟨most, h1, h2, h3, h4⟩ => ⟨most, h1, h2, by omega, h4⟩
  | d + 1, .neg c, h => drC_ok (d := d) (c := c) h
  | d + 1, .many b cs, ⟨h1, h2, h3⟩ => ⟨h1, by omega, fun c hc => drC_ok (h3 c hc)⟩
def c_law_lookD : Con := fun ws m R _ => match ws with
  | [.ref p, .int far] => 0 ≤ far ∧ far ≤ 1000000 ∧ DiceAt m p ∧ ∀ c m', Ext p m m' → (∀ d, drC (d + 1) c) → partsC c = 1 → R (enc c) m'
  | _ => False
theorem b_law_lookD : ∀ ws m R Z, ws.length = 2 → c_law_lookD ws m R Z → t_law_look c_law_ranges c_law_roll (endW R Z) (startW N_law_look ws) m := by
  intro ws m R Z hl h
  obtain ⟨a, b, rfl⟩ := two hl
  cases a <;> try exact h.elim
  cases b <;> try exact h.elim
  rename_i p far
  obtain ⟨h0, h1, hd, hR⟩ := h
  unfold t_law_look N_law_look
  walk_at "fw"
  simp only [c_law_roll]
  refine ⟨by decide, by decide, by decide, hd, fun r m1 r0 r8 x1 => ?_⟩
  obtain ⟨w, hw, e⟩ := pick8 r0 r8 [W.str "all", .str "last1", .str "last2", .str "last1", .str "last2", .str "all", .str "last1", .str "last3"] rfl
  simp only [oIx, seqOf, lstOf, e]
  have hw' : ∃ l most top, w = .str l ∧ lookTop l = some top ∧ 0 ≤ most ∧ most ≤ top ∧ valW ([(Sum.inr "all", W.int far), (Sum.inr "last1", .int 9), (Sum.inr "last2", .int 99), (Sum.inr "last3", .int 999)] : List (Key × W)) (.inr l) = some (.int most) := by
    simp only [List.mem_cons, List.not_mem_nil, or_false] at hw
    rcases hw with rfl | rfl | rfl | rfl | rfl | rfl | rfl | rfl
    · exact ⟨_, far, _, rfl, rfl, h0, h1, rfl⟩
    · exact ⟨_, 9, _, rfl, rfl, by decide, by decide, rfl⟩
    · exact ⟨_, 99, _, rfl, rfl, by decide, by decide, rfl⟩
    · exact ⟨_, 9, _, rfl, rfl, by decide, by decide, rfl⟩
    · exact ⟨_, 99, _, rfl, rfl, by decide, by decide, rfl⟩
    · exact ⟨_, far, _, rfl, rfl, h0, h1, rfl⟩
    · exact ⟨_, 9, _, rfl, rfl, by decide, by decide, rfl⟩
    · exact ⟨_, 999, _, rfl, rfl, by decide, by decide, rfl⟩
  obtain ⟨l, most, top, rfl, ht, m0, mt, hv⟩ := hw'
  simp only [List.zip_cons_cons, List.zip_nil_left, dctOf, hv, c_law_ranges]
  have := lookTop_le ht
  refine ⟨m0, by omega, x1.dice, fun rs m2 x2 r1 r3 ok => ⟨by decide, ?_⟩⟩
  have := hR (.look l rs) m2 (x1.trans x2) (fun d => ⟨top, ht, r1, r3, rsOk_mono mt ok⟩) (by unfold partsC; rfl)
  unfold enc at this
  exact this
def c_law_conditionD (k : Nat) : Con := fun ws m R _ => match ws with
  | [.ref p, .int deep, .int far] => 1 ≤ deep ∧ deep.toNat < k ∧ 0 ≤ far ∧ far ≤ 1000000 ∧ DiceAt m p ∧ ∀ c m', Ext p m m' → drC deep.toNat c → partsC c ≤ PB deep.toNat → R (enc c) m'
  | _ => False
theorem partsCs_le {B : Nat} : ∀ {cs : List Cond}, (∀ c ∈ cs, partsC c ≤ B) → partsCs cs ≤ cs.length * B
  | [], _ => by simp [partsCs]
  | c :: r, h => by
    unfold partsCs
    have h1 := h c (by simp)
    have h2 := partsCs_le (cs := r) fun d hd => h d (by simp [hd])
    rw [List.length_cons, Nat.add_mul]
    omega
theorem b_law_conditionD (k : Nat) : ∀ ws m R Z, ws.length = 3 → c_law_conditionD (k + 1) ws m R Z → t_law_condition (c_law_conditionD k) c_law_roll c_law_lookD (endW R Z) (startW N_law_condition ws) m := by
  intro ws m R Z hl h
  obtain ⟨a, b, c, rfl⟩ := three hl
  cases a <;> try exact h.elim
  cases b <;> try exact h.elim
  cases c <;> try exact h.elim
  rename_i p deep far
  obtain ⟨h0, hk, f0, f1, hd, hR⟩ := h
  unfold t_law_condition N_law_condition
  show sSeq _ _ _ [some (W.ref p), some (W.int deep), some (.int far), none, none, none] m
  obtain ⟨d, rfl⟩ : ∃ d : Nat, deep = (d + 1 : Nat) := ⟨deep.toNat - 1, by omega⟩
  simp only [Int.toNat_natCast] at hk hR
  have p62 : (2 : Int) ^ 62 = 4611686018427387904 := by decide
  refine q_asgP (fun v m1 => ∃ way, v = .int way ∧ 0 ≤ way ∧ way < 9 ∧ Ext p m m1) (fun K hK => ?_) ?_
  · walk_at "fw"
    exact ⟨by decide, by decide, hd, fun r m1 r0 r9 x1 => hK _ _ ⟨r, rfl, r0, r9, x1⟩⟩
  rintro _ m1 ⟨way, rfl, way0, way9, x1⟩
  show sSeq _ _ _ [some (W.ref p), some (W.int (d + 1 : Nat)), some (.int far), some (.int way), none, none] m1
  by_cases hlook : ((d + 1 : Nat) : Int) < 2 ∨ way < 2
  · refine q_yes m1 (fun K hK => ?_) ?_
    · walk_at "fw"
      simp only [oLt]
      rcases hlook with h | h
      · simp only [h, decide_true, if_true]; exact hK
      · by_cases h' : ((d + 1 : Nat) : Int) < 2
        · simp only [h', decide_true, if_true]; exact hK
        · simp only [h, h', decide_true, decide_false, Bool.false_eq_true, if_false]; exact hK
    · walk_at "fw"
      exact ⟨f0, f1, x1.dice, fun c m2 x2 hc pc => hR c m2 (x1.trans x2) (hc d) (by rw [pc]; exact PB_pos d)⟩
  · have hl1 : ¬ ((d + 1 : Nat) : Int) < 2 := fun h => hlook (.inl h)
    have hl2 : ¬ way < 2 := fun h => hlook (.inr h)
    obtain ⟨e, rfl⟩ : ∃ e, d = e + 1 := ⟨d - 1, by omega⟩
    have ePB : PB (e + 1 + 1) = if e + 2 < 4 then 1 + 3 * PB (e + 1) else 1 + 2 * PB (e + 1) := rfl
    have e1 : ((e + 1 + 1 : Nat) : Int) - 1 = (e + 1 : Nat) := by omega
    refine q_skip m1 (fun K hK => ?_) ?_
    · walk_at "fw"
      simp only [oLt, hl1, hl2, decide_false, Bool.false_eq_true, if_false]; exact hK
    by_cases h5 : way < 5
    · refine q_yes m1 (fun K hK => ?_) ?_
      · walk_at "fw"
        simp only [oLt, h5, decide_true]; exact hK
      · walk_at "fw"
        simp only [oSub, c_law_conditionD]
        rw [e1]
        simp only [Int.toNat_natCast]
        refine ⟨by omega, by omega, f0, f1, x1.dice, fun c m2 x2 dc pc => ⟨by decide, ?_⟩⟩
        rw [enc_not]
        refine hR (.neg c) m2 (x1.trans x2) dc ?_
        unfold partsC
        rw [ePB]
        split <;> omega
    · refine q_skip m1 (fun K hK => ?_) ?_
      · walk_at "fw"
        simp only [oLt, h5, decide_false]; exact hK
      refine q_asgP (fun v m2 => ∃ many, v = .int many ∧ 2 ≤ many ∧ many ≤ 3 ∧ (3 ≤ e + 1 → many = 2) ∧ Ext p m m2) (fun K hK => ?_) ?_
      · walk_at "fw"
        refine ⟨by decide, by decide, x1.dice, fun r m2 r0 r4 x2 => ?_⟩
        simp only [oDiv, oLt, fInt, oMul, oAdd]
        have b01 : ∀ b : Bool, (0 : Int) ≤ (if b = true then 1 else 0) ∧ (if b = true then (1 : Int) else 0) ≤ 1 := fun b => by cases b <;> decide
        have hb := b01 (decide (((e + 1 + 1 : Nat) : Int) < 4))
        have hr : r / 3 = 0 ∨ r / 3 = 1 := by omega
        refine ⟨⟨by decide, by decide⟩, .inl (.inl ⟨by omega, by omega⟩), hK _ _ ⟨_, rfl, ?_, ?_, ?_, x1.trans x2⟩⟩
        · rcases hr with h | h <;> rw [h] <;> omega
        · rcases hr with h | h <;> rw [h] <;> omega
        · intro h3
          have : ¬ ((e + 1 + 1 : Nat) : Int) < 4 := by omega
          simp only [this, decide_false, Bool.false_eq_true, if_false]
          omega
      rintro _ m2 ⟨many, rfl, many2, many3, many4, x2⟩
      walk_at "fw"
      simp only [oMod, oIx, seqOf, lstOf]
      refine ⟨by decide, by decide, ?_⟩
      have hway : way % 2 = 0 ∨ way % 2 = 1 := by omega
      have hx : ∃ b : Bool, atI [W.str "and", .str "or"] (way % 2) = some (.str (if b then "and" else "or")) := by
        rcases hway with h | h <;> rw [h]
        · exact ⟨true, rfl⟩
        · exact ⟨false, rfl⟩
      obtain ⟨x, ex⟩ := hx
      simp only [ex]
      refine ⟨by decide, by omega, by omega, ?_⟩
      refine lc_inv (I := fun ws acc m' => acc.length + ws.length = many.toNat ∧ Ext p m m' ∧ ∃ cs : List Cond, acc = cs.map enc ∧ ∀ c ∈ cs, drC (e + 1) c ∧ partsC c ≤ PB (e + 1)) ?_ ?_ _ [] m2 ⟨by simp [rangeW], x2, [], rfl, by simp⟩
      · rintro w ws acc m' ⟨i1, i2, cs, rfl, i3⟩
        refine ⟨trivial, by simp only [List.length_cons] at i1; unfold sizeLine; omega, fun K hK => ?_⟩
        walk_at "fw"
        simp only [oSub, c_law_conditionD]
        rw [e1]
        simp only [Int.toNat_natCast]
        refine ⟨by omega, by omega, f0, f1, i2.dice, fun c m3 x3 dc pc => hK _ _ ⟨by simp at i1 ⊢; omega, i2.trans x3, cs ++ [c], by simp, fun u hu => ?_⟩⟩
        rcases List.mem_append.mp hu with hu | hu
        · exact i3 u hu
        · simp at hu; subst hu; exact ⟨dc, pc⟩
      · rintro acc m' ⟨i1, i2, cs, rfl, i3⟩
        refine ⟨trivial, ?_⟩
        simp only [List.length_nil, Nat.add_zero, List.length_map] at i1
        simp only [fTuple, seqOf, lstOf, oAdd]
        refine ⟨by simp; unfold sizeLine; omega, ?_⟩
        have hq := hR (.many x cs) m' i2 ⟨by omega, by omega, fun c hc => (i3 c hc).1⟩ (by
          unfold partsC
          have := partsCs_le fun c hc => (i3 c hc).2
          rw [ePB]
          split
          · have : cs.length * PB (e + 1) ≤ 3 * PB (e + 1) := Nat.mul_le_mul_right _ (by omega)
            omega
          · have : cs.length * PB (e + 1) ≤ 2 * PB (e + 1) := Nat.mul_le_mul_right _ (by have := many4 (by omega); omega)
            omega)
        unfold enc at hq
        rw [encs_map] at hq
        exact hq
theorem cutW_m1 {x : W} {l : List W} : cutW (l ++ [x]) none (some (-1)) = l := by
  unfold cutW
  have h2 : ((-1 : Int) < 0) := by decide
  have e : (-1 + ((l.length : Int) + 1)).toNat = l.length := by omega
  simp [HT.sIx, h2, e]
theorem atI_l {l : List W} {x : W} : atI (l ++ [x]) (-1) = some x := atI_last (by simp)
end FW

namespace FW
open PySem PySem.Spec L2
local macro_rules | `(tactic| walk_at "fw") => `(tactic| simp only [startW, endW, sRet, sRetN, sNext, sSeq, sDrop, sIf, sAsg, sRaise, sPar, sBreak, sCont, gSet, gTupN, gsetN, gSub, oSet, wC, wVar, getS0, getSs, wOp, wUn, wAnd, wOr, wNot, wTru, wTAnd, wTOr, wTNot, wTB, wChain, wIf, wCB, wCall, wNil, wCons, wTup, wLst, wLstM, wDct, wSl, wP, wNoP, wBM, wIt, wRange1, wRange2, wLc, wLcM, sFor, Tgt.wg, Tgt.slots, wipeW, wLam, wCallV, wSortSet, wListZip, wZip, wMaxD, wLenSet, capsOf, lamW,
  List.map_cons, List.map_nil, List.length_cons, List.length_nil, List.replicate, List.append_nil, List.nil_append, List.cons_append, List.getElem?_cons_zero, List.getElem?_cons_succ, List.set_cons_zero, List.set_cons_succ, if_true, true_and, and_true])
theorem max_if (i j : Int) : (if j > i then j else i) = max i j := by split <;> omega
def farL (cs : List Cond) : Int := lmax (cs.map endC ++ [0]) + lmax (cs.map turnC ++ [1])
theorem farL_le {cs : List Cond} (h : ∀ c ∈ cs, okC 6 c) : 1 ≤ farL cs ∧ farL cs ≤ 1001001 := by
  unfold farL
  have a1 := lmax_ge (l := cs.map endC ++ [0]) (x := 0) (by simp)
  have a2 := lmax_ge (l := cs.map turnC ++ [1]) (x := 1) (by simp)
  have a3 : lmax (cs.map endC ++ [0]) ≤ 1000001 := lmax_le _ (by simp) fun x hx => by
    rcases List.mem_append.mp hx with hx | hx
    · obtain ⟨c, hc, rfl⟩ := List.mem_map.mp hx
      exact (endC_ok 6 c (h c hc)).2.1
    · simp at hx; omega
  have a4 : lmax (cs.map turnC ++ [1]) ≤ 1000 := lmax_le _ (by simp) fun x hx => by
    rcases List.mem_append.mp hx with hx | hx
    · obtain ⟨c, hc, rfl⟩ := List.mem_map.mp hx
      exact (isTurn_pos (turnC_is 6 c (h c hc))).2
    · simp at hx; omega
  omega
theorem big_size {n : Nat} (h : n ≤ 8000000) : n ≤ sizeLine := by
  have : (2 : Nat) ^ 24 = 16777216 := by decide
  unfold sizeLine; omega
end FW

namespace FW
open PySem PySem.Spec L2
local macro_rules | `(tactic| walk_at "fw") => `(tactic| simp only [startW, endW, sRet, sRetN, sNext, sSeq, sDrop, sIf, sAsg, sRaise, sPar, sBreak, sCont, gSet, gTupN, gsetN, gSub, oSet, wC, wVar, getS0, getSs, wOp, wUn, wAnd, wOr, wNot, wTru, wTAnd, wTOr, wTNot, wTB, wChain, wIf, wCB, wCall, wNil, wCons, wTup, wLst, wLstM, wDct, wSl, wP, wNoP, wBM, wIt, wRange1, wRange2, wLc, wLcM, sFor, Tgt.wg, Tgt.slots, wipeW, wLam, wCallV, wSortSet, wListZip, wZip, wMaxD, wLenSet, capsOf, lamW, gTupG, gAll, wSetd, wDctM,
  List.map_cons, List.map_nil, List.length_cons, List.length_nil, List.replicate, List.append_nil, List.nil_append, List.cons_append, List.getElem?_cons_zero, List.getElem?_cons_succ, List.set_cons_zero, List.set_cons_succ, if_true, true_and, and_true])
theorem pick2 {r : Int} (h0 : 0 ≤ r) (h1 : r < 2) (a b : W) : ∃ w, (w = a ∨ w = b) ∧ atI [a, b] r = some w := by
  have : r = 0 ∨ r = 1 := by omega
  rcases this with rfl | rfl
  · exact ⟨a, by simp, rfl⟩
  · exact ⟨b, by simp, rfl⟩
end FW

namespace FW
open PySem PySem.Spec L2
def N_is_name : List Str := ["thing", "sign"]
/-- is_name -/
def t_is_name : WS := (sRet (wAnd (wUn (oIsi "str") (wVar 0)) (wAnd (wChain oLe oLe (wC (.int 1)) (wCB fLen (wCons (wVar 0) wNil)) (wC (.int 8))) (wCB fAll (wCons (wLc (wIt (wVar 0)) (.nm 1) wYes (wOp (oIn false) (wVar 1) (wC (.str "abcdefghijklmnopqrstuvwxyz")))) wNil)))))
def N_is_rule : List Str := ["thing"]
/-- is_rule -/
def t_is_rule (c_is_condition c_is_name : Con) : WS := (sSeq (sIf (wTOr (wTNot (wTru (wUn (oIsi "tuple") (wVar 0)))) (wTOr (wTB (wOp (oEq true) (wCB fLen (wCons (wVar 0) wNil)) (wC (.int 2)))) (wTNot (wTru (wCall 1 c_is_name (wCons (wOp oIx (wVar 0) (wC (.int 0))) wNil)))))) (sRet (wC (.bl false))) sNext)
    (sRet (wAnd (wOp (oEq true) (wOp oIx (wVar 0) (wC (.int 0))) (wC (.str "other"))) (wCall 1 c_is_condition (wCons (wOp oIx (wVar 0) (wC (.int 1))) wNil)))))
def N_need_rules : List Str := ["thing", "one", "word", "condition"]
/-- need_rules -/
def t_need_rules (c_is_rule : Con) : WS := (sSeq (sIf (wTOr (wTNot (wTru (wUn (oIsi "tuple") (wVar 0)))) (wTOr (wTB (wOp oGt (wCB fLen (wCons (wVar 0) wNil)) (wC (.int 6)))) (wTNot (wTru (wCB fAll (wCons (wLc (wIt (wVar 0)) (.nm 1) wYes (wCall 1 c_is_rule (wCons (wVar 1) wNil))) wNil)))))) (sRaise "BadRules") sNext)
    (sIf (wTB (wOp (oEq true) (wLenSet (wLc (wIt (wVar 0)) (.tp [2, 3]) wYes (wVar 2))) (wCB fLen (wCons (wVar 0) wNil)))) (sRaise "BadRules") sNext))
def N_form : List Str := ["rules", "number", "word", "condition"]
/-- form -/
def t_form (c_fits : Con) : WS := (sSeq (sFor (wIt (wVar 0)) (Tgt.tp [2, 3]).wg (sIf (wTru (wCall 2 c_fits (wCons (wVar 3) (wCons (wVar 1) wNil)))) (sRet (wVar 2)) sNext))
    (sRet (wC (.str "other"))))
def N_form_of : List Str := ["rules", "number"]
/-- form_of -/
def t_form_of (c_form c_need_number c_need_rules : Con) : WS := (sSeq (sDrop (wCall 1 c_need_rules (wCons (wVar 0) wNil)))
    (sSeq (sDrop (wCall 1 c_need_number (wCons (wVar 1) wNil)))
    (sRet (wCall 2 c_form (wCons (wVar 0) (wCons (wVar 1) wNil))))))
def N_cuts_of : List Str := ["rules", "found", "word", "condition"]
/-- cuts_of -/
def t_cuts_of (c_edges : Con) : WS := (sSeq (sAsg (wLst wNil) (gSet 1))
    (sSeq (sFor (wIt (wVar 0)) (Tgt.tp [2, 3]).wg (sAsg (wOp oAdd (wVar 1) (wCall 1 c_edges (wCons (wVar 3) wNil))) (gSet 1)))
    (sRet (wVar 1))))
def N_long_of : List Str := ["rules", "word", "condition"]
/-- long_of -/
def t_long_of (c_turn_of : Con) : WS := (sRet (wMaxD (wLc (wIt (wVar 0)) (.tp [1, 2]) wYes (wCall 1 c_turn_of (wCons (wVar 2) wNil))) 1))
def N_law_name : List Str := ["dice"]
/-- _law_name -/
def t_law_name (c_law_roll : Con) : WS := (sRet (wOp oIx (wLst (wCons (wC (.str "one")) (wCons (wC (.str "two")) (wCons (wC (.str "few")) (wCons (wC (.str "many")) (wCons (wC (.str "zero")) (wCons (wC (.str "a")) (wCons (wC (.str "paucal")) (wCons (wC (.str "q")) wNil))))))))) (wCall 2 c_law_roll (wCons (wVar 0) (wCons (wC (.int 8)) wNil)))))
def N_law_rules : List Str := ["dice", "deep", "far", "found", "turn", "word", "one"]
/-- _law_rules -/
def t_law_rules (c_law_roll c_law_condition c_law_name : Con) : WS := (sSeq (sAsg (wLstM wNil) (gSet 3))
    (sSeq (sFor (wRange1 (wCons (wCall 2 c_law_roll (wCons (wVar 0) (wCons (wC (.int 5)) wNil))) wNil)) (Tgt.nm 4).wg (sSeq (sAsg (wCall 1 c_law_name (wCons (wVar 0) wNil)) (gSet 5))
    (sIf (wTB (wOp (oIn true) (wVar 5) (wLc (wIt (wVar 3)) (.nm 6) wYes (wOp oIx (wVar 6) (wC (.int 0)))))) (sDrop (wBM "list" mAppend (wVar 3) (wCons (wTup (wCons (wVar 5) (wCons (wCall 3 c_law_condition (wCons (wVar 0) (wCons (wVar 1) (wCons (wVar 2) wNil)))) wNil))) wNil))) sNext)))
    (sRet (wCB fTuple (wCons (wVar 3) wNil)))))
end FW

namespace FW
open PySem PySem.Spec L2
local macro_rules | `(tactic| walk_at "fw") => `(tactic| simp only [startW, endW, sRet, sRetN, sNext, sSeq, sDrop, sIf, sAsg, sRaise, sPar, sBreak, sCont, gSet, gTupN, gsetN, gSub, oSet, wC, wVar, getS0, getSs, wOp, wUn, wAnd, wOr, wNot, wTru, wTAnd, wTOr, wTNot, wTB, wChain, wIf, wCB, wCall, wNil, wCons, wTup, wLst, wLstM, wDct, wSl, wP, wNoP, wBM, wIt, wRange1, wRange2, wLc, wLcM, sFor, Tgt.wg, Tgt.slots, wipeW, wLam, wCallV, wSortSet, wListZip, wZip, wMaxD, wLenSet, capsOf, lamW, gTupG, gAll, wSetd, wDctM,
  List.map_cons, List.map_nil, List.length_cons, List.length_nil, List.replicate, List.append_nil, List.nil_append, List.cons_append, List.getElem?_cons_zero, List.getElem?_cons_succ, List.set_cons_zero, List.set_cons_succ, if_true, true_and, and_true])
def letters : List Nat := (Str.ofString "abcdefghijklmnopqrstuvwxyz").cps.toList
def nameOk (z : Str) : Bool := decide (1 ≤ z.length) && decide (z.length ≤ 8) && z.cps.toList.all fun c => decide (c ∈ letters)
def isName : W → Bool
  | .str z => nameOk z
  | _ => false
/-- texts of a size that can be asked -/
def strFit : W → Bool
  | .str z => decide (z.length ≤ sizeLine)
  | _ => true
def c_is_name : Con := fun ws m R _ => match ws with
  | [w] => (tyW m w).isSome = true ∧ strFit w = true ∧ R (.bl (isName w)) m
  | _ => False
theorem isS_at {m : Sto} {w : W} (h : (tyW m w).isSome = true) {R : WR} (k : ∀ b : Bool, (b = true ↔ ∃ z, w = .str z) → R (.bl b) m) : oIsi "str" w m R := by
  cases w with
  | fnv _ _ _ _ _ => cases h
  | exv _ _ => cases h
  | tpu _ => cases h
  | ref n =>
    obtain ⟨t, ht⟩ := Option.isSome_iff_exists.mp h
    rcases ty_ref ht with rfl | rfl <;> simp only [oIsi, ht] <;> exact k _ (by simp [isiB])
  | str z => simp only [oIsi, tyW]; exact k _ (by simp [isiB])
  | _ => simp only [oIsi, tyW]; exact k _ (by simp [isiB])
theorem b_is_name : ∀ ws m R Z, ws.length = 1 → c_is_name ws m R Z → t_is_name (endW R Z) (startW N_is_name ws) m := by
  intro ws m R Z hl h
  obtain ⟨w, rfl⟩ := one hl
  obtain ⟨h1, h2, hR⟩ := h
  unfold t_is_name N_is_name
  walk_at "fw"
  refine isS_at h1 fun b hb => ?_
  simp only [truW]
  cases b with
  | false =>
    have : isName w = false := by
      cases w with
      | str z => exact absurd (hb.mpr ⟨z, rfl⟩) (by simp)
      | _ => rfl
    simpa [this] using hR
  | true =>
    obtain ⟨z, rfl⟩ := hb.mp rfl
    have hz : z.length ≤ sizeLine := by simpa [strFit] using h2
    simp only [if_true, fLen, lenW, hz, oLe]
    have n1 : decide ((1 : Int) ≤ (z.length : Int)) = decide (1 ≤ z.length) := by rw [Bool.eq_iff_iff, decide_eq_true_eq, decide_eq_true_eq]; omega
    have n2 : decide ((z.length : Int) ≤ 8) = decide (z.length ≤ 8) := by rw [Bool.eq_iff_iff, decide_eq_true_eq, decide_eq_true_eq]; omega
    rw [n1, n2]
    have hR' : R (.bl (decide (1 ≤ z.length) && decide (z.length ≤ 8) && z.cps.toList.all fun c => decide (c ∈ letters))) m := hR
    cases e1 : decide (1 ≤ z.length) with
    | false => simp only [e1, Bool.false_and] at hR'; simpa [truW] using hR'
    | true =>
      cases e2 : decide (z.length ≤ 8) with
      | false => simp only [e1, e2, Bool.true_and, Bool.false_and] at hR'; simpa [truW] using hR'
      | true =>
        simp only [e1, e2, Bool.true_and] at hR'
        simp only [if_true, truW]
        have h8 : z.length ≤ 8 := by simpa using e2
        have hl8 : z.cps.toList.length ≤ 8 := by simpa [Str.length] using h8
        refine lc_enc (fun c : Nat => W.str ⟨#[c]⟩) (fun c => W.bl (decide (c ∈ letters))) trivial z.cps.toList [] (size_ok (by simpa using Nat.le_trans hl8 (by decide))) (fun c hc K hK => ?_) ?_
        · walk_at "fw"
          simp only [oIn]
          simpa [letters] using hK
        · have e4 : lblOf m (.lst (z.cps.toList.map fun c => W.bl (decide (c ∈ letters)))) = some (z.cps.toList.map fun c => decide (c ∈ letters)) := boolsW_of _
          simp only [List.nil_append, fAll, e4, List.all_map]
          exact hR'
def wOther : Str := "other"
def isRule : W → Bool
  | .tup [a, b] => isName a && !(eqF a (.str wOther)) && isCond b
  | _ => false
/-- the texts that are asked for their size -/
def ruleFit : W → Bool
  | .tup (a :: _) => strFit a
  | _ => true
def c_is_rule : Con := fun ws m R _ => match ws with
  | [w] => noRef w = true ∧ ruleFit w = true ∧ R (.bl (isRule w)) m
  | _ => False
theorem ty_noRef {m : Sto} {w : W} (h : noRef w = true) : (tyW m w).isSome = true := by
  cases w with
  | ref n => cases h
  | fnv _ _ _ _ _ => cases h
  | exv _ _ => cases h
  | tpu _ => cases h
  | _ => rfl
theorem isT_at {m : Sto} {w : W} (h : noRef w = true) {R : WR} (k : ∀ b : Bool, (b = true ↔ ∃ l, w = .tup l) → R (.bl b) m) : oIsi "tuple" w m R := by
  cases w with
  | ref n => cases h
  | fnv _ _ _ _ _ => cases h
  | exv _ _ => cases h
  | tpu _ => cases h
  | _ => simp only [oIsi, tyW]; exact k _ (by simp [isiB])
theorem b_is_rule : ∀ ws m R Z, ws.length = 1 → c_is_rule ws m R Z → t_is_rule c_is_condition c_is_name (endW R Z) (startW N_is_rule ws) m := by
  intro ws m R Z hl h
  obtain ⟨w, rfl⟩ := one hl
  obtain ⟨h1, h2, hR⟩ := h
  unfold t_is_rule N_is_rule
  walk_at "fw"
  refine isT_at h1 fun b hb => ?_
  simp only [truW]
  cases b with
  | false =>
    have : isRule w = false := by
      cases w with
      | tup l => exact absurd (hb.mpr ⟨l, rfl⟩) (by simp)
      | _ => rfl
    simpa [this] using hR
  | true =>
    obtain ⟨l, rfl⟩ := hb.mp rfl
    simp only [Bool.not_true, Bool.false_eq_true, if_false, fLen, lenW, seqOf, oEq, scalW]
    by_cases h2l : l.length = 2
    · match l, h2l with
      | [a, b], _ =>
        have na : noRef a = true := by simp only [noRef, noRefs, Bool.and_true, Bool.and_eq_true] at h1; exact h1.1
        have nb : noRef b = true := by simp only [noRef, noRefs, Bool.and_true, Bool.and_eq_true] at h1; exact h1.2
        simp only [List.length_cons, List.length_nil, oIx, seqOf, atI_0, atI_1]
        simp only [show decide (((0 + 1 + 1 : Nat) : Int) = 2) = true from rfl, Bool.xor_true, Bool.not_true, Bool.false_eq_true, if_false]
        refine ⟨ty_noRef na, h2, ?_⟩
        have hR' : R (.bl (isName a && !(eqF a (.str wOther)) && isCond b)) m := hR
        simp only [truW]
        cases en : isName a with
        | false => rw [en] at hR'; simpa using hR'
        | true =>
          rw [en] at hR'
          obtain ⟨z, rfl⟩ : ∃ z, a = .str z := by
            cases a with
            | str z => exact ⟨z, rfl⟩
            | _ => cases en
          simp only [Bool.not_true, Bool.false_eq_true, if_false, scalW, truW]
          simp only [eqF, Bool.true_and] at hR'
          by_cases ez : z = wOther
          · subst ez
            simpa [wOther, truW] using hR'
          · have : ¬ z = Str.ofString "other" := ez
            have e5 : (z == wOther) = false := beq_eq_false_iff_ne.mpr ez
            rw [e5] at hR'
            simp only [this, decide_false, Bool.xor_true, Bool.not_false, if_true]
            exact ⟨nb, by simpa using hR'⟩
    · have : isRule (.tup l) = false := by
        match l, h2l with
        | [], _ => rfl
        | [_], _ => rfl
        | [_, _], h => exact absurd rfl h
        | _ :: _ :: _ :: _, _ => rfl
      have e2 : ¬ ((l.length : Int) = 2) := by omega
      simpa [e2, this] using hR
def ruleWord : W → Str
  | .tup (.str z :: _) => z
  | _ => wOther
def isRules : W → Bool
  | .tup l => decide (l.length ≤ 6) && l.all isRule && decide (l.map ruleWord).Nodup
  | _ => false
def rulesFit : W → Bool
  | .tup l => l.all ruleFit
  | _ => true
def c_need_rules : Con := fun ws m R Z => match ws with
  | [w] => noRef w = true ∧ rulesFit w = true ∧ (isRules w = true → R .non m) ∧ (isRules w = false → Z { cls := "BadRules" } m)
  | _ => False
theorem dd_grow : ∀ (xs done : List Str) (n : Nat), dd done xs n ≤ n + xs.length ∧ (dd done xs n = n + xs.length ↔ (xs.Nodup ∧ ∀ x ∈ xs, x ∉ done))
  | [], done, n => ⟨Nat.le_refl _, by simp [dd]⟩
  | x :: r, done, n => by
    have e : dd done (x :: r) n = dd (done ++ [x]) r (if (done.any fun y => y == x) = true then n else n + 1) := rfl
    rw [e]
    by_cases hx : (done.any fun y => y == x) = true
    · rw [if_pos hx]
      obtain ⟨h1, h2⟩ := dd_grow r (done ++ [x]) n
      obtain ⟨y, hy, ey⟩ := List.any_eq_true.mp hx
      have ey : y = x := by simpa using ey
      subst ey
      refine ⟨by simp; omega, fun h => by simp at h; omega, fun h => absurd hy (h.2 y (by simp))⟩
    · rw [if_neg hx]
      obtain ⟨h1, h2⟩ := dd_grow r (done ++ [x]) (n + 1)
      have hnx : x ∉ done := fun h => hx (List.any_eq_true.mpr ⟨x, h, by simp⟩)
      refine ⟨by simp; omega, ?_⟩
      rw [show n + (x :: r).length = n + 1 + r.length by simp; omega, h2, List.nodup_cons]
      constructor
      · rintro ⟨k1, k2⟩
        refine ⟨⟨fun h => k2 x h (by simp), k1⟩, fun y hy => ?_⟩
        rcases List.mem_cons.mp hy with rfl | hy
        · exact hnx
        · exact fun h => k2 y hy (by simp [h])
      · rintro ⟨⟨k1, k2⟩, k3⟩
        refine ⟨k2, fun y hy h => ?_⟩
        rcases List.mem_append.mp h with h | h
        · exact k3 y (by simp [hy]) h
        · simp at h; subst h; exact k1 hy
theorem dd_nodup (xs : List Str) : dd [] xs 0 = xs.length ↔ xs.Nodup := by
  have := (dd_grow xs [] 0).2
  simpa using this
theorem rule_shape {w : W} (h : isRule w = true) : ∃ z b, w = .tup [.str z, b] ∧ nameOk z = true ∧ z ≠ wOther ∧ isCond b = true := by
  match w, h with
  | .tup [a, b], h =>
    simp only [isRule, Bool.and_eq_true, Bool.not_eq_true'] at h
    cases a with
    | str z => exact ⟨z, b, rfl, h.1.1, by simpa [eqF] using h.1.2, h.2⟩
    | _ => cases h.1.1
theorem b_need_rules : ∀ ws m R Z, ws.length = 1 → c_need_rules ws m R Z → t_need_rules c_is_rule (endW R Z) (startW N_need_rules ws) m := by
  intro ws m R Z hl h
  obtain ⟨w, rfl⟩ := one hl
  obtain ⟨h1, h2, hY, hN⟩ := h
  unfold t_need_rules N_need_rules
  have e0 : startW ["thing", "one", "word", "condition"] [w] = [some w, none, none, none] := rfl
  rw [e0]
  -- the first test
  refine r_seq ?_
  by_cases ht : ∃ l, w = .tup l
  rotate_left
  · have hw : isRules w = false := by
      cases w with
      | tup l => exact absurd ⟨l, rfl⟩ ht
      | _ => rfl
    refine r_yes m (fun K hK => ?_) ?_
    · walk_at "fw"
      refine isT_at h1 fun b hb => ?_
      have : b = false := by cases b with
        | false => rfl
        | true => exact absurd (hb.mp rfl) ht
      subst this
      simpa [truW] using hK
    · walk_at "fw"
      exact hN hw
  obtain ⟨l, rfl⟩ := ht
  have nl : ∀ w ∈ l, noRef w = true := noRefs_mem h1
  have fl : ∀ w ∈ l, ruleFit w = true := List.all_eq_true.mp h2
  by_cases h6 : l.length ≤ 6
  rotate_left
  · have hw : isRules (.tup l) = false := by
      have : decide (l.length ≤ 6) = false := decide_eq_false h6
      simp [isRules, this]
    refine r_yes m (fun K hK => ?_) ?_
    · walk_at "fw"
      refine isT_at h1 fun b hb => ?_
      have : b = true := hb.mpr ⟨l, rfl⟩
      subst this
      have : (6 : Int) < (l.length : Int) := by omega
      simpa [truW, fLen, lenW, seqOf, oGt, oLt, this] using hK
    · walk_at "fw"
      exact hN hw
  have big : ¬ (6 : Int) < (l.length : Int) := by omega
  refine r_if (!(l.all isRule)) m (fun K hK => ?_) ?_
  · walk_at "fw"
    refine isT_at h1 fun b hb => ?_
    have : b = true := hb.mpr ⟨l, rfl⟩
    subst this
    simp only [truW, Bool.not_true, Bool.false_eq_true, if_false, fLen, lenW, seqOf, oGt, oLt, big, decide_false]
    refine lc_map (fun w => W.bl (isRule w)) trivial l [] (size_ok (by simp; omega)) (fun w hw K' hK' => ?_) ?_
    · walk_at "fw"
      exact ⟨nl w hw, fl w hw, hK'⟩
    · have e4 : lblOf m (.lst (l.map fun w => W.bl (isRule w))) = some (l.map isRule) := boolsW_of _
      simp only [List.nil_append, fAll, e4, List.all_map]
      exact hK
  cases hall : l.all isRule with
  | false =>
    have hw : isRules (.tup l) = false := by simp [isRules, hall]
    simp only [Bool.not_false, if_true]
    walk_at "fw"
    exact hN hw
  | true =>
    simp only [Bool.not_true, Bool.false_eq_true, if_false]
    have sh : ∀ w ∈ l, ∃ z b, w = .tup [.str z, b] ∧ nameOk z = true ∧ z ≠ wOther ∧ isCond b = true := fun w hw => rule_shape (List.all_eq_true.mp hall w hw)
    refine r_next ?_
    show sIf (wTB (wOp (oEq true) (wLenSet (wLc (wIt (wVar 0)) (.tp [2, 3]) wYes (wVar 2))) (wCB fLen (wCons (wVar 0) wNil)))) (sRaise "BadRules") sNext (endW R Z) [some (W.tup l), none, none, none] m
    refine r_if (decide (l.map ruleWord).Nodup ^^ true) m (fun K hK => ?_) ?_
    · walk_at "fw"
      refine lc_map (fun w => W.str (ruleWord w)) (by constructor <;> first | trivial | rfl) l [] (size_ok (by simp; omega)) (fun w hw K' hK' => ?_) ?_
      · obtain ⟨z, b, rfl, _⟩ := sh w hw
        walk_at "fw"
        exact hK'
      · have e5 : lstrOf m (.lst ([] ++ l.map fun w => W.str (ruleWord w))) = some (l.map ruleWord) := by
          have : ([] ++ l.map fun w => W.str (ruleWord w)) = (l.map ruleWord).map W.str := by simp [Function.comp_def]
          rw [this]; exact strsW_map _
        simp only [e5]
        refine ⟨by simp; omega, ?_⟩
        simp only [fLen, lenW, seqOf, oEq, scalW]
        have e6 : decide (((dd [] (l.map ruleWord) 0 : Nat) : Int) = ((l.length : Nat) : Int)) = decide (l.map ruleWord).Nodup := by
          have := dd_nodup (l.map ruleWord)
          rw [List.length_map] at this
          rw [Bool.eq_iff_iff, decide_eq_true_eq, decide_eq_true_eq, ← this]
          omega
        rw [e6]
        exact hK
    · cases hnd : decide (l.map ruleWord).Nodup with
      | true =>
        simp only [Bool.xor_self, Bool.false_eq_true, if_false]
        walk_at "fw"
        exact hY (by simp [isRules, hall, h6]; simpa using hnd)
      | false =>
        simp only [Bool.false_xor, if_true]
        walk_at "fw"
        exact hN (by simp [isRules]; intro _ _; simpa using hnd)
end FW

namespace FW
open PySem PySem.Spec L2
local macro_rules | `(tactic| walk_at "fw") => `(tactic| simp only [startW, endW, sRet, sRetN, sNext, sSeq, sDrop, sIf, sAsg, sRaise, sPar, sBreak, sCont, gSet, gTupN, gsetN, gSub, oSet, wC, wVar, getS0, getSs, wOp, wUn, wAnd, wOr, wNot, wTru, wTAnd, wTOr, wTNot, wTB, wChain, wIf, wCB, wCall, wNil, wCons, wTup, wLst, wLstM, wDct, wSl, wP, wNoP, wBM, wIt, wRange1, wRange2, wLc, wLcM, sFor, Tgt.wg, Tgt.slots, wipeW, wLam, wCallV, wSortSet, wListZip, wZip, wMaxD, wLenSet, capsOf, lamW, gTupG, gAll, wSetd, wDctM,
  List.map_cons, List.map_nil, List.length_cons, List.length_nil, List.replicate, List.append_nil, List.nil_append, List.cons_append, List.getElem?_cons_zero, List.getElem?_cons_succ, List.set_cons_zero, List.set_cons_succ, if_true, true_and, and_true])
abbrev Rule := Str × Cond
def encRule (r : Rule) : W := .tup [.str r.1, enc r.2]
def encRs (rs : List Rule) : W := .tup (rs.map encRule)
def okRs (rs : List Rule) : Prop := rs.length ≤ 6 ∧ (∀ r ∈ rs, nameOk r.1 = true ∧ r.1 ≠ wOther ∧ GoodC r.2) ∧ (rs.map (·.1)).Nodup
theorem okRs.cond {rs : List Rule} (h : okRs rs) : ∀ r ∈ rs, okC 6 r.2 := fun r hr => (h.2.1 r hr).2.2.1
theorem rules_dec {w : W} (h : isRules w = true) : ∃ rs, w = encRs rs ∧ okRs rs := by
  match w, h with
  | .tup l, h =>
    simp only [isRules, Bool.and_eq_true, decide_eq_true_eq] at h
    obtain ⟨⟨h1, h2⟩, h3⟩ := h
    have all := List.all_eq_true.mp h2
    have : ∀ l : List W, (∀ w ∈ l, isRule w = true) → ∃ rs : List Rule, l = rs.map encRule ∧ l.map ruleWord = rs.map (·.1) ∧ ∀ r ∈ rs, nameOk r.1 = true ∧ r.1 ≠ wOther ∧ GoodC r.2 := by
      intro l
      induction l with
      | nil => intro _; exact ⟨[], rfl, rfl, by simp⟩
      | cons w r ih =>
        intro h
        obtain ⟨rs, e1, e2, e3⟩ := ih fun u hu => h u (by simp [hu])
        obtain ⟨z, b, rfl, hz, hzo, hb⟩ := rule_shape (h w (by simp))
        obtain ⟨c, rfl, hok, hp⟩ := cond_of hb
        refine ⟨(z, c) :: rs, by rw [e1]; rfl, by simp [ruleWord, e2], fun q hq => ?_⟩
        rcases List.mem_cons.mp hq with rfl | hq
        · exact ⟨hz, hzo, hok, hp⟩
        · exact e3 q hq
    obtain ⟨rs, e1, e2, e3⟩ := this l all
    refine ⟨rs, by rw [e1]; rfl, by rw [e1, List.length_map] at h1; exact h1, e3, by rw [← e2]; exact h3⟩
theorem rules_enc {rs : List Rule} (h : okRs rs) : isRules (encRs rs) = true := by
  obtain ⟨h1, h2, h3⟩ := h
  simp only [encRs, isRules, Bool.and_eq_true, decide_eq_true_eq, List.length_map]
  refine ⟨⟨h1, ?_⟩, ?_⟩
  · rw [List.all_eq_true]
    intro w hw
    obtain ⟨r, hr, rfl⟩ := List.mem_map.mp hw
    obtain ⟨k1, k2, k3⟩ := h2 r hr
    simp only [encRule, isRule, isName, k1, k3.is, eqF, Bool.and_true, Bool.true_and, Bool.not_eq_true']
    exact beq_eq_false_iff_ne.mpr k2
  · rw [List.map_map]
    exact h3
theorem noRef_rs (rs : List Rule) : noRef (encRs rs) = true := by
  simp only [encRs, noRef]
  exact noRefs_all fun w hw => by
    obtain ⟨r, hr, rfl⟩ := List.mem_map.mp hw
    simp only [encRule, noRef, noRefs, noRef_enc, Bool.and_true]
theorem fit_rs {rs : List Rule} (h : okRs rs) : rulesFit (encRs rs) = true := by
  simp only [encRs, rulesFit]
  rw [List.all_eq_true]
  intro w hw
  obtain ⟨r, hr, rfl⟩ := List.mem_map.mp hw
  have := (h.2.1 r hr).1
  simp only [nameOk, Bool.and_eq_true, decide_eq_true_eq] at this
  simp only [encRule, ruleFit, strFit, decide_eq_true_eq]
  exact size_ok (by omega)
theorem encRule_inj {a b : Rule} (h : encRule a = encRule b) : a = b := by
  unfold encRule at h
  simp only [W.tup.injEq, List.cons.injEq, W.str.injEq, and_true] at h
  exact Prod.ext h.1 (enc_inj _ _ h.2)
theorem encRs_inj : ∀ {rs rs' : List Rule}, encRs rs = encRs rs' → rs = rs' := by
  intro rs
  induction rs with
  | nil =>
    intro rs' h
    cases rs' with
    | nil => rfl
    | cons _ _ => simp [encRs] at h
  | cons a r ih =>
    intro rs' h
    cases rs' with
    | nil => simp [encRs] at h
    | cons b s =>
      simp only [encRs, List.map_cons, W.tup.injEq, List.cons.injEq] at h
      rw [encRule_inj h.1, ih (rs' := s) (by simp only [encRs]; rw [h.2])]
def formR : List Rule → Int → Str
  | [], _ => wOther
  | r :: rs, n => if evalC n r.2 = true then r.1 else formR rs n
def c_form : Con := fun ws m R _ => match ws with
  | [w, .int n] => ∃ rs, w = encRs rs ∧ (∀ r ∈ rs, okC 6 r.2) ∧ R (.str (formR rs n)) m
  | _ => False
theorem b_form : ∀ ws m R Z, ws.length = 2 → c_form ws m R Z → t_form (c_fits 6) (endW R Z) (startW N_form ws) m := by
  intro ws m R Z hl h
  obtain ⟨w, b, rfl⟩ := two hl
  cases b <;> try exact h.elim
  rename_i n
  obtain ⟨rs, rfl, hok, hR⟩ := h
  unfold t_form N_form
  have e0 : ∀ w, startW ["rules", "number", "word", "condition"] [w, W.int n] = [some w, some (.int n), none, none] := fun _ => rfl
  rw [e0]
  refine r_seq ?_
  unfold encRs
  walk_at "fw"
  refine for_inv (I := fun ws d m' => m' = m ∧ ∃ rest a b, (∀ r ∈ rest, okC 6 r.2) ∧ ws = rest.map encRule ∧ d = [some (encRs rs), some (.int n), a, b] ∧ formR rest n = formR rs n) ?_ ?_ _ _ m ⟨rfl, rs, none, none, hok, rfl, rfl, rfl⟩
  · rintro v ws d m' ⟨rfl, rest, a, b, hr, ew, rfl, hf⟩ Q hQ
    cases rest with
    | nil => cases ew
    | cons r rest =>
      simp only [List.map_cons, List.cons.injEq] at ew
      obtain ⟨rfl, rfl⟩ := ew
      refine ⟨trivial, ?_⟩
      unfold encRule
      walk_at "fw"
      refine ⟨r.2, rfl, hr r (by simp), ?_⟩
      simp only [truW]
      have hf : (if evalC n r.2 = true then r.1 else formR rest n) = formR rs n := hf
      cases e : evalC n r.2 with
      | true =>
        rw [e, if_pos rfl] at hf
        simp only [if_true]
        rw [hf]; exact hR
      | false =>
        rw [e] at hf
        simp only [Bool.false_eq_true, if_false] at hf ⊢
        exact hQ _ _ ⟨rfl, rest, _, _, fun q hq => hr q (by simp [hq]), rfl, rfl, hf⟩
  · rintro d m' ⟨rfl, rest, a, b, hr, ew, rfl, hf⟩
    cases rest with
    | cons _ _ => cases ew
    | nil =>
      refine ⟨trivial, ?_⟩
      walk_at "fw"
      have : Str.ofString "other" = formR rs n := by rw [← hf]; rfl
      rw [this]; exact hR
def c_form_of : Con := fun ws m R Z => match ws with
  | [w, s] => noRef w = true ∧ rulesFit w = true ∧ (tyW m s).isSome = true ∧ (isRules w = false → Z { cls := "BadRules" } m) ∧ (isRules w = true → isNum 0 (10 ^ 15) s = false → Z { cls := "BadNumber" } m) ∧
    ∀ rs n, w = encRs rs → okRs rs → s = .int n → 0 ≤ n → n ≤ 10 ^ 15 → R (.str (formR rs n)) m
  | _ => False
theorem b_form_of : ∀ ws m R Z, ws.length = 2 → c_form_of ws m R Z → t_form_of c_form c_need_number c_need_rules (endW R Z) (startW N_form_of ws) m := by
  intro ws m R Z hl h
  obtain ⟨w, s, rfl⟩ := two hl
  obtain ⟨h1, h2, h3, h4, h5, hR⟩ := h
  unfold t_form_of N_form_of
  walk_at "fw"
  refine ⟨h1, h2, fun hr => ⟨h3, fun hn => ?_, fun hn => h5 hr hn⟩, h4⟩
  obtain ⟨rs, rfl, ok⟩ := rules_dec hr
  obtain ⟨n, rfl, n0, n1⟩ := num_of hn
  exact ⟨rs, rfl, ok.cond, hR rs n rfl ok rfl n0 n1⟩
theorem form_of_at {rs : List Rule} {n : Int} {m : Sto} {R : WR} {Z : WZ} (ok : okRs rs) (h1 : 0 ≤ n) (h2 : n ≤ 10 ^ 15) (h : R (.str (formR rs n)) m) : c_form_of [encRs rs, .int n] m R Z := by
  refine ⟨noRef_rs rs, fit_rs ok, rfl, fun e => ?_, fun _ e => ?_, fun rs' n' e1 _ e2 _ _ => ?_⟩
  · rw [rules_enc ok] at e; cases e
  · exfalso
    simp only [isNum, Bool.and_eq_false_iff, decide_eq_false_iff_not] at e
    omega
  · cases e2
    rw [← encRs_inj e1]; exact h
def wordsR (rs : List Rule) : List Str := rs.map (·.1) ++ [wOther]
def cutsR : List Rule → List Int
  | [] => []
  | r :: rs => edgesC r.2 ++ cutsR rs
def longR (rs : List Rule) : Int := maxD 1 (rs.map fun r => turnC r.2)
theorem cutsR_mem {rs : List Rule} {r : Rule} (h : r ∈ rs) {e : Int} (he : e ∈ edgesC r.2) : e ∈ cutsR rs := by
  induction rs with
  | nil => cases h
  | cons q s ih =>
    unfold cutsR
    rcases List.mem_cons.mp h with rfl | h
    · exact List.mem_append_left _ he
    · exact List.mem_append_right _ (ih h)
theorem cutsR_from {rs : List Rule} {e : Int} (h : e ∈ cutsR rs) : ∃ r ∈ rs, e ∈ edgesC r.2 := by
  induction rs with
  | nil => cases h
  | cons q s ih =>
    unfold cutsR at h
    rcases List.mem_append.mp h with h | h
    · exact ⟨q, by simp, h⟩
    · obtain ⟨r, hr, he⟩ := ih h
      exact ⟨r, by simp [hr], he⟩
theorem cutsR_len {B : Nat} : ∀ {rs : List Rule}, (∀ r ∈ rs, (edgesC r.2).length ≤ B) → (cutsR rs).length ≤ rs.length * B
  | [], _ => by simp [cutsR]
  | r :: rs, h => by
    unfold cutsR
    have h1 := h r (by simp)
    have h2 := cutsR_len (rs := rs) fun q hq => h q (by simp [hq])
    rw [List.length_append, List.length_cons, Nat.add_mul]
    omega
theorem longR_is {rs : List Rule} (h : ∀ r ∈ rs, okC 6 r.2) : isTurn (longR rs) ∧ ∀ r ∈ rs, turnC r.2 ∣ longR rs := by
  have main : ∀ l : List Int, l ≠ [] → (∀ t ∈ l, isTurn t) → isTurn (lmax l) ∧ ∀ t ∈ l, t ∣ lmax l := by
    intro l hne ht
    have hm : lmax l ∈ l := by
      clear ht
      induction l with
      | nil => exact absurd rfl hne
      | cons a r ih =>
        cases r with
        | nil => simp [lmax]
        | cons b s =>
          have := ih (by simp)
          show max a (lmax (b :: s)) ∈ a :: b :: s
          by_cases h : a ≤ lmax (b :: s)
          · rw [Int.max_eq_right h]; exact List.mem_cons_of_mem _ this
          · rw [Int.max_eq_left (by omega)]; simp
    exact ⟨ht _ hm, fun t htm => isTurn_dvd (ht t htm) (ht _ hm) (lmax_ge htm)⟩
  unfold longR
  cases rs with
  | nil => exact ⟨.inl rfl, by simp⟩
  | cons r s =>
    have := main ((r :: s).map fun r => turnC r.2) (by simp) fun t ht => by
      obtain ⟨q, hq, rfl⟩ := List.mem_map.mp ht
      exact turnC_is 6 q.2 (h q hq)
    exact ⟨this.1, fun q hq => this.2 _ (List.mem_map.mpr ⟨q, hq, rfl⟩)⟩
theorem per_form {rs : List Rule} (h : ∀ r ∈ rs, okC 6 r.2) {cuts : List Int} {T : Int} (hc : ∀ r ∈ rs, ∀ e ∈ edgesC r.2, e ∈ cuts) (hT : ∀ r ∈ rs, turnC r.2 ∣ T) : Per (formR rs) cuts T := by
  intro n n' h1 h2 h3
  induction rs with
  | nil => rfl
  | cons r s ih =>
    have e1 : evalC n r.2 = evalC n' r.2 := (per_eval 6 r.2 (h r (by simp))).mono (hc r (by simp)) (hT r (by simp)) n n' h1 h2 h3
    have e2 := ih (fun q hq => h q (by simp [hq])) (fun q hq => hc q (by simp [hq])) (fun q hq => hT q (by simp [hq]))
    unfold formR
    rw [e1, e2]
theorem per_formR {rs : List Rule} (h : ∀ r ∈ rs, okC 6 r.2) : Per (formR rs) (cutsR rs) (longR rs) := per_form h (fun r hr e he => cutsR_mem hr he) (longR_is h).2
def c_cuts_of : Con := fun ws m R _ => match ws with
  | [w] => ∃ rs, w = encRs rs ∧ rs.length ≤ 6 ∧ (∀ r ∈ rs, GoodC r.2) ∧ R (.lst ((cutsR rs).map W.int)) m
  | _ => False
theorem b_cuts_of : ∀ ws m R Z, ws.length = 1 → c_cuts_of ws m R Z → t_cuts_of (c_edges 6) (endW R Z) (startW N_cuts_of ws) m := by
  intro ws m R Z hl h
  obtain ⟨w, rfl⟩ := one hl
  obtain ⟨rs, rfl, h6, hg, hR⟩ := h
  unfold t_cuts_of N_cuts_of
  have e0 : ∀ w, startW ["rules", "found", "word", "condition"] [w] = [some w, none, none, none] := fun _ => rfl
  rw [e0]
  refine q_asg (.lst []) m (fun K hK => ?_) ?_
  · walk_at "fw"
    exact ⟨by decide, hK⟩
  refine r_seq ?_
  unfold encRs
  walk_at "fw"
  refine for_inv (I := fun ws d m' => m' = m ∧ ∃ dn rest a b, rs = dn ++ rest ∧ ws = rest.map encRule ∧ d = [some (encRs rs), some (.lst ((cutsR dn).map W.int)), a, b]) ?_ ?_ _ _ m ⟨rfl, [], rs, none, none, rfl, rfl, rfl⟩
  · rintro v ws d m' ⟨rfl, dn, rest, a, b, er, ew, rfl⟩ Q hQ
    cases rest with
    | nil => cases ew
    | cons r rest =>
      simp only [List.map_cons, List.cons.injEq] at ew
      obtain ⟨rfl, rfl⟩ := ew
      have hr : r ∈ rs := by rw [er]; simp
      have g := hg r hr
      refine ⟨trivial, ?_⟩
      unfold encRule
      walk_at "fw"
      refine ⟨r.2, rfl, g.1, by have := g.2; omega, ?_⟩
      simp only [oAdd, lstOfT]
      have l1 := cutsR_len (rs := dn) (B := 720) fun q hq => by
        have gq := hg q (by rw [er]; simp [hq])
        have := edges_len 6 q.2 gq.1
        have := gq.2
        omega
      have l2 := edges_len 6 r.2 g.1
      have l3 := g.2
      have l4 : dn.length ≤ 6 := by rw [er] at h6; simp at h6; omega
      have l5 : dn.length * 720 ≤ 6 * 720 := Nat.mul_le_mul_right _ l4
      refine ⟨size_ok (by simp; omega), hQ _ _ ⟨rfl, dn ++ [r], rest, some (.str r.1), some (enc r.2), by rw [er]; simp, rfl, ?_⟩⟩
      have : cutsR (dn ++ [r]) = cutsR dn ++ edgesC r.2 := by
        clear hQ er h6 l1 l4 l5
        induction dn with
        | nil => simp [cutsR]
        | cons q s ih => simp only [List.cons_append, cutsR, ih, List.append_assoc]
      rw [this, List.map_append]
  · rintro d m' ⟨rfl, dn, rest, a, b, er, ew, rfl⟩
    cases rest with
    | cons _ _ => cases ew
    | nil =>
      refine ⟨trivial, ?_⟩
      walk_at "fw"
      rw [List.append_nil] at er
      rw [← er]; exact hR
def c_long_of : Con := fun ws m R _ => match ws with
  | [w] => ∃ rs, w = encRs rs ∧ rs.length ≤ 6 ∧ (∀ r ∈ rs, okC 6 r.2) ∧ R (.int (longR rs)) m
  | _ => False
theorem b_long_of : ∀ ws m R Z, ws.length = 1 → c_long_of ws m R Z → t_long_of (c_turn_of 6) (endW R Z) (startW N_long_of ws) m := by
  intro ws m R Z hl h
  obtain ⟨w, rfl⟩ := one hl
  obtain ⟨rs, rfl, h6, hok, hR⟩ := h
  unfold t_long_of N_long_of encRs
  walk_at "fw"
  refine lc_enc encRule (fun r => W.int (turnC r.2)) (by constructor <;> first | trivial | rfl) rs [] (size_ok (by simp; omega)) (fun r hr K hK => ?_) ?_
  · unfold encRule
    walk_at "fw"
    exact ⟨r.2, rfl, hok r hr, hK⟩
  · have e4 : lintOf m (.lst ([] ++ rs.map fun r => W.int (turnC r.2))) = some (rs.map fun r => turnC r.2) := by
      rw [List.nil_append]; exact intsW_of' rs
    simp only [e4]
    exact hR
end FW

namespace FW
open PySem PySem.Spec L2
local macro_rules | `(tactic| walk_at "fw") => `(tactic| simp only [startW, endW, sRet, sRetN, sNext, sSeq, sDrop, sIf, sAsg, sRaise, sPar, sBreak, sCont, gSet, gTupN, gsetN, gSub, oSet, wC, wVar, getS0, getSs, wOp, wUn, wAnd, wOr, wNot, wTru, wTAnd, wTOr, wTNot, wTB, wChain, wIf, wCB, wCall, wNil, wCons, wTup, wLst, wLstM, wDct, wSl, wP, wNoP, wBM, wIt, wRange1, wRange2, wLc, wLcM, sFor, Tgt.wg, Tgt.slots, wipeW, wLam, wCallV, wSortSet, wListZip, wZip, wMaxD, wLenSet, capsOf, lamW, gTupG, gAll, wSetd, wDctM,
  List.map_cons, List.map_nil, List.length_cons, List.length_nil, List.replicate, List.append_nil, List.nil_append, List.cons_append, List.getElem?_cons_zero, List.getElem?_cons_succ, List.set_cons_zero, List.set_cons_succ, if_true, true_and, and_true])
def isF (rs : List Rule) (wd : Str) (n : Int) : Bool := formR rs n == wd
theorem per_isF {rs : List Rule} (h : ∀ r ∈ rs, okC 6 r.2) (wd : Str) : Per (isF rs wd) (cutsR rs) (longR rs) := fun n n' h1 h2 h3 => by
  unfold isF
  rw [per_formR h n n' h1 h2 h3]
theorem set_end {α : Type} (l : List α) (a b : α) : (l ++ [a]).set l.length b = l ++ [b] := by
  rw [List.set_append_right _ _ (Nat.le_refl _)]
  simp
theorem set_last {m : Sto} {o o' : Ob} : List.set (m ++ [o]) m.length o' = m ++ [o'] := set_end m o o'
end FW

namespace FW
open PySem PySem.Spec L2
local macro_rules | `(tactic| walk_at "fw") => `(tactic| simp only [startW, endW, sRet, sRetN, sNext, sSeq, sDrop, sIf, sAsg, sRaise, sPar, sBreak, sCont, gSet, gTupN, gsetN, gSub, oSet, wC, wVar, getS0, getSs, wOp, wUn, wAnd, wOr, wNot, wTru, wTAnd, wTOr, wTNot, wTB, wChain, wIf, wCB, wCall, wNil, wCons, wTup, wLst, wLstM, wDct, wSl, wP, wNoP, wBM, wIt, wRange1, wRange2, wLc, wLcM, sFor, Tgt.wg, Tgt.slots, wipeW, wLam, wCallV, wSortSet, wListZip, wZip, wMaxD, wLenSet, capsOf, lamW, gTupG, gAll, wSetd, wDctM,
  List.map_cons, List.map_nil, List.length_cons, List.length_nil, List.replicate, List.append_nil, List.nil_append, List.cons_append, List.getElem?_cons_zero, List.getElem?_cons_succ, List.set_cons_zero, List.set_cons_succ, if_true, true_and, and_true])
/-- the names that the laws draw -/
def names8 : List Str := ["one", "two", "few", "many", "zero", "a", "paucal", "q"]
def c_law_name : Con := fun ws m R _ => match ws with
  | [.ref p] => DiceAt m p ∧ ∀ z m', Ext p m m' → nameOk z = true → z ≠ wOther → z ∈ names8 → R (.str z) m'
  | _ => False
theorem b_law_name : ∀ ws m R Z, ws.length = 1 → c_law_name ws m R Z → t_law_name c_law_roll (endW R Z) (startW N_law_name ws) m := by
  intro ws m R Z hl h
  obtain ⟨w, rfl⟩ := one hl
  cases w <;> try exact h.elim
  rename_i p
  obtain ⟨hd, hR⟩ := h
  unfold t_law_name N_law_name
  walk_at "fw"
  refine ⟨by decide, by decide, by decide, hd, fun r m1 r0 r8 x1 => ?_⟩
  obtain ⟨w, hw, e⟩ := pick8 r0 r8 [W.str "one", .str "two", .str "few", .str "many", .str "zero", .str "a", .str "paucal", .str "q"] rfl
  simp only [oIx, seqOf, lstOf, e]
  have : ∃ z, w = .str z ∧ nameOk z = true ∧ z ≠ wOther ∧ z ∈ names8 := by
    simp only [List.mem_cons, List.not_mem_nil, or_false] at hw
    rcases hw with rfl | rfl | rfl | rfl | rfl | rfl | rfl | rfl <;> exact ⟨_, rfl, by decide +kernel, by unfold wOther; rw [Ne, ofStr_inj]; decide, by simp [names8]⟩
  obtain ⟨z, rfl, k1, k2, k3⟩ := this
  exact hR z m1 x1 k1 k2 k3
/-- rules as drawn -/
def DrawnRs (d : Nat) (rs : List Rule) : Prop := okRs rs ∧ rs.length ≤ 4 ∧ ∀ r ∈ rs, drC d r.2 ∧ partsC r.2 ≤ PB d ∧ r.1 ∈ names8
def c_law_rules : Con := fun ws m R _ => match ws with
  | [.ref p, .int deep, .int far] => 1 ≤ deep ∧ deep ≤ 5 ∧ 0 ≤ far ∧ far ≤ 1000000 ∧ DiceAt m p ∧ ∀ rs m', Ext p m m' → DrawnRs deep.toNat rs → R (encRs rs) m'
  | _ => False
theorem any_eqF (z : Str) : ∀ l : List Str, ((l.map W.str).any fun w => eqF w (.str z)) = decide (z ∈ l)
  | [] => rfl
  | a :: r => by
    rw [List.map_cons, List.any_cons, any_eqF z r]
    rw [Bool.eq_iff_iff, Bool.or_eq_true, decide_eq_true_eq, decide_eq_true_eq, List.mem_cons]
    simp only [eqF, beq_iff_eq]
    constructor
    · rintro (h | h)
      · exact .inl h.symm
      · exact .inr h
    · rintro (h | h)
      · exact .inl h.symm
      · exact .inr h
theorem flats_str : ∀ l : List Str, (l.map W.str).all isFlat = true
  | [] => rfl
  | a :: r => by rw [List.map_cons, List.all_cons, flats_str r]; rfl
theorem in_strs {neg : Bool} {z : Str} {l : List Str} {m : Sto} {R : WR} (h : R (.bl (decide (z ∈ l) ^^ neg)) m) : oIn neg (.str z) (.lst (l.map W.str)) m R := by
  simp only [oIn, seqOf, lstOf]
  refine .inl ⟨rfl, flats_str l, ?_⟩
  rw [any_eqF]; exact h
theorem b_law_rules : ∀ ws m R Z, ws.length = 3 → c_law_rules ws m R Z → t_law_rules c_law_roll (c_law_conditionD 6) c_law_name (endW R Z) (startW N_law_rules ws) m := by
  intro ws m R Z hl h
  obtain ⟨a, b, c, rfl⟩ := three hl
  cases a <;> try exact h.elim
  cases b <;> try exact h.elim
  cases c <;> try exact h.elim
  rename_i p deep far
  obtain ⟨d0, d5, f0, f1, hd, hR⟩ := h
  have h62 := p62
  unfold t_law_rules N_law_rules
  show sSeq _ _ _ [some (W.ref p), some (W.int deep), some (.int far), none, none, none, none] m
  have hlt : p ≠ m.length := by have := hd.lt; omega
  refine q_asg (.ref m.length) (m ++ [.lst []]) (fun K hK => ?_) ?_
  · walk_at "fw"
    exact ⟨by decide, hK⟩
  show sSeq _ _ _ [some (W.ref p), some (W.int deep), some (.int far), some (.ref m.length), none, none, none] _
  refine r_seq ?_
  walk_at "fw"
  have xp := Ext.push hd (.lst [])
  refine ⟨by decide, by decide, xp.dice, fun r m1 r0 r5 x1 => ⟨by omega, by omega, ?_⟩⟩
  have x01 := xp.trans x1
  have e1 : m1[m.length]? = some (.lst []) := by
    rw [x1.same m.length (by simp) (Ne.symm hlt)]; simp
  have dd5 : deep.toNat < 6 := by omega
  have dpb := PB_le (d := deep.toNat) (by omega)
  refine for_inv (I := fun ws d m' => ∃ rs a4 a5 a6, d = [some (W.ref p), some (W.int deep), some (.int far), some (.ref m.length), a4, a5, a6] ∧ Ext p m m' ∧ m'[m.length]? = some (.lst (rs.map encRule)) ∧ DrawnRs deep.toNat rs ∧ rs.length + ws.length ≤ 4) ?_ ?_ _ _ m1 ⟨[], none, none, none, rfl, x01, e1, ⟨⟨by simp, by simp, by simp⟩, by simp, by simp⟩, by simp [rangeW]; omega⟩
  · rintro w ws d m' ⟨rs, a4, a5, a6, rfl, x, e, dr, len⟩ P hP
    refine ⟨trivial, ?_⟩
    show sSeq _ _ _ [some (W.ref p), some (W.int deep), some (.int far), some (.ref m.length), some w, a5, a6] m'
    refine q_asgP (fun v m2 => ∃ z, v = .str z ∧ nameOk z = true ∧ z ≠ wOther ∧ z ∈ names8 ∧ Ext p m m2 ∧ m2[m.length]? = some (.lst (rs.map encRule))) (fun K hK => ?_) ?_
    · walk_at "fw"
      refine ⟨x.dice, fun z m2 x2 k1 k2 k3 => hK _ _ ⟨z, rfl, k1, k2, k3, x.trans x2, ?_⟩⟩
      rw [x2.same m.length (List.getElem?_eq_some_iff.mp e).1 (Ne.symm hlt)]; exact e
    rintro _ m2 ⟨z, rfl, k1, k2, k3, x2, e2⟩
    show sIf _ _ _ _ [some (W.ref p), some (W.int deep), some (.int far), some (.ref m.length), some w, some (.str z), a6] m2
    have lenr : rs.length ≤ 4 := dr.2.1
    refine r_if (decide (z ∈ rs.map (·.1)) ^^ true) m2 (fun K hK => ?_) ?_
    · walk_at "fw"
      simp only [lstOf, e2]
      refine lc_enc encRule (fun r => W.str r.1) (by simp only [e2]) rs [] (size_ok (by simp; omega)) (fun r hr K' hK' => ?_) ?_
      · walk_at "fw"
        simp only [encRule, oIx, seqOf, atI_0]
        exact hK'
      · have : ([] ++ rs.map fun r => W.str r.1) = (rs.map (·.1)).map W.str := by simp [Function.comp_def]
        rw [this]
        refine in_strs ?_
        exact hK
    by_cases hz : z ∈ rs.map (·.1)
    · simp only [hz, decide_true, Bool.xor_self, Bool.false_eq_true, if_false]
      exact hP _ _ ⟨rs, _, _, _, rfl, x2, e2, dr, by simp at len; omega⟩
    · simp only [hz, decide_false, Bool.false_xor, if_true]
      walk_at "fw"
      refine ⟨⟨rfl, by simp only [lstOf, e2]; rfl⟩, d0, dd5, f0, f1, x2.dice, fun cc m3 x3 dc pc => ⟨by decide, ?_⟩⟩
      have e3 : m3[m.length]? = some (.lst (rs.map encRule)) := by
        rw [x3.same m.length (List.getElem?_eq_some_iff.mp e2).1 (Ne.symm hlt)]; exact e2
      simp only [mAppend, e3]
      refine ⟨by simp; unfold sizeLine; omega, ?_⟩
      have len' : rs.length + 1 + ws.length ≤ 4 := by simp at len; omega
      refine hP _ _ ⟨rs ++ [(z, cc)], _, _, _, rfl, (x2.trans x3).own (Nat.le_refl _) hd, ?_, ⟨⟨by simp; omega, fun q hq => ?_, ?_⟩, by simp; omega, fun q hq => ?_⟩, by simp; omega⟩
      · rw [List.getElem?_set_self (List.getElem?_eq_some_iff.mp e3).1]
        simp [encRule]
      · rcases List.mem_append.mp hq with hq | hq
        · exact dr.1.2.1 q hq
        · simp at hq; subst hq
          exact ⟨k1, k2, okC_mono (drC_ok dc) (by omega), Nat.le_trans pc (by omega)⟩
      · rw [List.map_append, List.nodup_append]
        refine ⟨dr.1.2.2, by simp, fun a ha b hb => ?_⟩
        simp at hb; subst hb
        exact fun he => hz (by rw [← he]; exact ha)
      · rcases List.mem_append.mp hq with hq | hq
        · exact dr.2.2 q hq
        · simp at hq; subst hq; exact ⟨dc, pc, k3⟩
  · rintro d m' ⟨rs, a4, a5, a6, rfl, x, e, dr, len⟩
    refine ⟨trivial, ?_⟩
    walk_at "fw"
    have : seqOf m' (.ref m.length) = some (rs.map encRule) := by simp only [seqOf, lstOf, e]
    simp only [fTuple, this]
    exact hR rs m' x dr
/-- the forms of so many numbers -/
def formsL (rs : List Rule) (n : Nat) : List Str := (List.range n).map fun (i : Nat) => formR rs (i : Int)
end FW

namespace FW
open PySem PySem.Spec L2
local macro_rules | `(tactic| walk_at "fw") => `(tactic| simp only [startW, endW, sRet, sRetN, sNext, sSeq, sDrop, sIf, sAsg, sRaise, sPar, sBreak, sCont, gSet, gTupN, gsetN, gSub, oSet, wC, wVar, getS0, getSs, wOp, wUn, wAnd, wOr, wNot, wTru, wTAnd, wTOr, wTNot, wTB, wChain, wIf, wCB, wCall, wNil, wCons, wTup, wLst, wLstM, wDct, wSl, wP, wNoP, wBM, wIt, wRange1, wRange2, wLc, wLcM, sFor, Tgt.wg, Tgt.slots, wipeW, wLam, wCallV, wSortSet, wListZip, wZip, wMaxD, wLenSet, capsOf, lamW, gTupG, gAll, wSetd, wDctM,
  List.map_cons, List.map_nil, List.length_cons, List.length_nil, List.replicate, List.append_nil, List.nil_append, List.cons_append, List.getElem?_cons_zero, List.getElem?_cons_succ, List.set_cons_zero, List.set_cons_succ, if_true, true_and, and_true])
theorem formsL_get {rs : List Rule} {n i : Nat} (h : i < n) : (formsL rs n)[i]? = some (formR rs (i : Int)) := by
  unfold formsL
  rw [List.getElem?_map, List.getElem?_range h]
  rfl
theorem formsL_len (rs : List Rule) (n : Nat) : (formsL rs n).length = n := by simp [formsL]
theorem letters_lt : ∀ c ∈ letters, c < 0x110000 := by decide +kernel
theorem name_strOk {z : Str} (h : nameOk z = true) : PyData.strOk z = true := by
  simp only [nameOk, Bool.and_eq_true] at h
  have h2 := List.all_eq_true.mp h.2
  unfold PyData.strOk
  rw [Array.all_eq_true_iff_forall_mem]
  intro c hc
  exact decide_eq_true (letters_lt c (of_decide_eq_true (h2 c (by simpa using hc))))
theorem word_strOk {rs : List Rule} (ok : okRs rs) {wd : Str} (h : wd ∈ wordsR rs) : PyData.strOk wd = true := by
  unfold wordsR at h
  rcases List.mem_append.mp h with h | h
  · obtain ⟨r, hr, rfl⟩ := List.mem_map.mp h
    exact name_strOk (ok.2.1 r hr).1
  · simp at h; subst h; decide +kernel
/-- the rules of a round -/
theorem drawn_rules {p : Nat} {m' : Sto} {d : List (Option W)} {Z : WZ} {s b2 : Option W} {tl : List (Option W)} (hd : DiceAt m' p) (ed : d = s :: some (.ref p) :: b2 :: tl) {K : WR} (hK : ∀ rs m2, DrawnRs 3 rs → Ext p m' m2 → K (encRs rs) m2) :
    wCall 3 c_law_rules (wCons (wVar 1) (wCons (wOp oAdd (wC (.int 1)) (wCall 2 c_law_roll (wCons (wVar 1) (wCons (wC (.int 3)) wNil)))) (wCons (wOp oIx (wLst (wCons (wC (.int 30)) (wCons (wC (.int 300)) wNil))) (wCall 2 c_law_roll (wCons (wVar 1) (wCons (wC (.int 2)) wNil)))) wNil))) d m' K Z := by
  subst ed
  walk_at "fw"
  refine ⟨by decide, by decide, hd, fun r m2 r0 r3 x1 => ?_⟩
  simp only [oAdd]
  refine ⟨by decide, by decide, by decide, x1.dice, fun r' m3 r0' r3' x2 => ?_⟩
  obtain ⟨wf, hwf, ef⟩ := pick2 r0' r3' (.int 30) (.int 300)
  have hfar : ∃ far : Int, wf = .int far ∧ 0 ≤ far ∧ far ≤ 1000000 := by
    rcases hwf with rfl | rfl <;> exact ⟨_, rfl, by decide, by decide⟩
  obtain ⟨far, rfl, f0, f1⟩ := hfar
  simp only [oIx, seqOf, lstOf, ef]
  refine ⟨by omega, by omega, f0, f1, x2.dice, fun rs m4 x3 dr => hK rs m4 ?_ (x1.trans (x2.trans x3))⟩
  have up : ∀ {d : Nat} {c : Cond}, drC d c → drC (d + 1) c := by
    intro d
    induction d with
    | zero => intro c h; exact h.elim
    | succ d ih =>
      intro c h
      cases c with
      | look l rs => exact h
      | neg c => exact ih (c := c) h
      | many b cs => exact ⟨h.1, h.2.1, fun c hc => ih (h.2.2 c hc)⟩
  have hr : r = 0 ∨ r = 1 ∨ r = 2 := by omega
  rcases hr with rfl | rfl | rfl
  · exact ⟨dr.1, dr.2.1, fun q hq => ⟨up (up (dr.2.2 q hq).1), Nat.le_trans (dr.2.2 q hq).2.1 (by decide), (dr.2.2 q hq).2.2⟩⟩
  · exact ⟨dr.1, dr.2.1, fun q hq => ⟨up (dr.2.2 q hq).1, Nat.le_trans (dr.2.2 q hq).2.1 (by decide), (dr.2.2 q hq).2.2⟩⟩
  · exact dr
/-- [one[1] for one in rules], [one[0] for one in rules] -/
theorem e_cons {a : WE} {r : WA} {d : List (Option W)} {m : Sto} {R : List W → Sto → Prop} {Z : WZ} (h : a d m (fun x m1 => r d m1 (fun xs m2 => R (x :: xs) m2) Z) Z) : wCons a r d m R Z := h
theorem wds_at {rs : List Rule} {i j : Nat} {d : List (Option W)} {m : Sto} {Z : WZ} {K : WR} (h4 : rs.length ≤ 6) (hi : getS d i = some (encRs rs)) (hj : ∀ w, getS ((wipeW d [j]).set j (some w)) j = some w) (hK : K (.lst (rs.map fun r => W.str r.1)) m) :
    wLc (wIt (wVar i)) (.nm j) wYes (wOp oIx (wVar j) (wC (.int 0))) d m K Z := by
  unfold wLc wIt wVar
  rw [hi]
  unfold encRs
  refine lc_enc encRule (fun r => W.str r.1) trivial rs [] (size_ok (by simp; omega)) (fun r hr K' hK' => ?_) (by simpa using hK)
  have hj' := hj (encRule r)
  simp only [Tgt.wg, Tgt.slots, gSet, wOp, hj', wC]
  simp only [encRule, oIx, seqOf, atI_0]
  exact hK'
end FW

namespace FW
open PySem PySem.Spec L2
def N_need_name : List Str := ["thing"]
/-- need_name -/
def t_need_name (c_is_name : Con) : WS := (sIf (wTNot (wTru (wCall 1 c_is_name (wCons (wVar 0) wNil)))) (sRaise "BadName") sNext)
def N_how_many_have : List Str := ["rules", "word", "low", "high", "number"]
/-- how_many_have -/
def t_how_many_have (c_long_of c_cuts_of c_need_number c_need_name c_need_rules c_form : Con) (h_many_of : W → Con → Con) : WS := (sSeq (sDrop (wCall 1 c_need_rules (wCons (wVar 0) wNil)))
    (sSeq (sDrop (wCall 1 c_need_name (wCons (wVar 1) wNil)))
    (sSeq (sDrop (wCall 1 c_need_number (wCons (wVar 2) wNil)))
    (sSeq (sDrop (wCall 1 c_need_number (wCons (wVar 3) wNil)))
    (sRet (wLam h_many_of 5 [0, 1] [4] (wOp (oEq false) (wCall 2 c_form (wCons (wVar 0) (wCons (wVar 4) wNil))) (wVar 1)) 5 (wCons (wCall 1 c_cuts_of (wCons (wVar 0) wNil)) (wCons (wCall 1 c_long_of (wCons (wVar 0) wNil)) (wCons (wVar 2) (wCons (wVar 3) wNil))))))))))
end FW

namespace FW
open PySem PySem.Spec L2
local macro_rules | `(tactic| walk_at "fw") => `(tactic| simp only [startW, endW, sRet, sRetN, sNext, sSeq, sDrop, sIf, sAsg, sRaise, sPar, sBreak, sCont, gSet, gTupN, gsetN, gSub, oSet, wC, wVar, getS0, getSs, wOp, wUn, wAnd, wOr, wNot, wTru, wTAnd, wTOr, wTNot, wTB, wChain, wIf, wCB, wCall, wNil, wCons, wTup, wLst, wLstM, wDct, wSl, wP, wNoP, wBM, wIt, wRange1, wRange2, wLc, wLcM, sFor, Tgt.wg, Tgt.slots, wipeW, wLam, wCallV, wSortSet, wListZip, wZip, wMaxD, wLenSet, capsOf, lamW, gTupG, gAll, wSetd, wDctM,
  List.map_cons, List.map_nil, List.length_cons, List.length_nil, List.replicate, List.append_nil, List.nil_append, List.cons_append, List.getElem?_cons_zero, List.getElem?_cons_succ, List.set_cons_zero, List.set_cons_succ, if_true, true_and, and_true])
def c_need_name : Con := fun ws m R Z => match ws with
  | [w] => (tyW m w).isSome = true ∧ strFit w = true ∧ (isName w = true → R .non m) ∧ (isName w = false → Z { cls := "BadName" } m)
  | _ => False
theorem b_need_name : ∀ ws m R Z, ws.length = 1 → c_need_name ws m R Z → t_need_name c_is_name (endW R Z) (startW N_need_name ws) m := by
  intro ws m R Z hl h
  obtain ⟨w, rfl⟩ := one hl
  obtain ⟨h1, h2, hY, hN⟩ := h
  unfold t_need_name N_need_name
  walk_at "fw"
  refine ⟨h1, h2, ?_⟩
  simp only [truW]
  cases e : isName w with
  | true => simpa using hY e
  | false => simpa using hN e
def c_how_many_have : Con := fun ws m R Z => match ws with
  | [w, wd, a, b] => noRef w = true ∧ rulesFit w = true ∧ noRef wd = true ∧ strFit wd = true ∧ (tyW m a).isSome = true ∧ (tyW m b).isSome = true ∧ (isRules w = false → Z { cls := "BadRules" } m) ∧ (isRules w = true → isName wd = false → Z { cls := "BadName" } m) ∧
    (isRules w = true → isName wd = true → isNum 0 (10 ^ 15) a = false ∨ isNum 0 (10 ^ 15) b = false → Z { cls := "BadNumber" } m) ∧
    ∀ rs z lo hi, w = encRs rs → okRs rs → wd = .str z → nameOk z = true → a = .int lo → b = .int hi → 0 ≤ lo → lo ≤ 10 ^ 15 → 0 ≤ hi → hi ≤ 10 ^ 15 → (cutsR rs).length ≤ 4000 ∧ R (.int (cntI (isF rs z) lo hi)) m
  | _ => False
theorem b_how_many_have : ∀ ws m R Z, ws.length = 4 → c_how_many_have ws m R Z → t_how_many_have c_long_of c_cuts_of c_need_number c_need_name c_need_rules c_form h_many_of (endW R Z) (startW N_how_many_have ws) m := by
  intro ws m R Z hl h
  obtain ⟨w, wd, a, b, rfl⟩ := four hl
  obtain ⟨h1, h2, h3, h4, h5, h6, e1, e2, e3, hR⟩ := h
  unfold t_how_many_have N_how_many_have
  walk_at "fw"
  refine ⟨h1, h2, fun hr => ?_, e1⟩
  refine ⟨ty_noRef h3, h4, fun hn => ?_, e2 hr⟩
  refine ⟨h5, fun ha => ?_, fun ha => e3 hr hn (.inl ha)⟩
  refine ⟨h6, fun hb => ?_, fun hb => e3 hr hn (.inr hb)⟩
  obtain ⟨rs, rfl, ok⟩ := rules_dec hr
  obtain ⟨lo, rfl, l0, l1⟩ := num_of ha
  obtain ⟨hi, rfl, g0, g1⟩ := num_of hb
  obtain ⟨z, rfl⟩ : ∃ z, wd = .str z := by
    cases wd with
    | str z => exact ⟨z, rfl⟩
    | _ => cases hn
  obtain ⟨hc, hR⟩ := hR rs z lo hi rfl ok rfl hn rfl rfl l0 l1 g0 g1
  have hok := ok.cond
  have tt := isTurn_pos (longR_is hok).1
  refine ⟨rs, rfl, ok.1, fun r hr => (ok.2.1 r hr).2.2, rs, rfl, ok.1, hok, fun F => ?_⟩
  refine ⟨rfl, isF rs z, cutsR rs, intsW_map _, hc, tt.1, tt.2, l0, by omega, g0, by omega, per_isF hok z, ?_, hR⟩
  intro k _ _ R' Z' hR'
  refine ⟨rfl, rs, rfl, hok, ?_⟩
  simp only [oEq, scalW, Bool.xor_false]
  unfold isF at hR'
  have : (formR rs k == z) = decide (formR rs k = z) := by
    rw [Bool.eq_iff_iff]; simp
  rw [this] at hR'
  exact hR'
theorem have_at {rs : List Rule} {z : Str} {lo hi : Int} {m : Sto} {R : WR} {Z : WZ} (ok : okRs rs) (hz : nameOk z = true) (hc : (cutsR rs).length ≤ 4000) (l0 : 0 ≤ lo) (l1 : lo ≤ 10 ^ 15) (g0 : 0 ≤ hi) (g1 : hi ≤ 10 ^ 15) (h : R (.int (cntI (isF rs z) lo hi)) m) : c_how_many_have [encRs rs, .str z, .int lo, .int hi] m R Z := by
  have n8 : z.length ≤ 8 := by simp only [nameOk, Bool.and_eq_true, decide_eq_true_eq] at hz; exact hz.1.2
  refine ⟨noRef_rs rs, fit_rs ok, rfl, ?_, rfl, rfl, (fun e => by rw [rules_enc ok] at e; cases e), (fun _ e => ?_), (fun _ _ e => ?_), fun rs' z' lo' hi' q1 _ q2 _ q3 q4 _ _ _ _ => ?_⟩
  · simp only [strFit, decide_eq_true_eq]; exact size_ok (by omega)
  · have : nameOk z = false := e
    rw [hz] at this; cases this
  · exfalso
    simp only [isNum, Bool.and_eq_false_iff, decide_eq_false_iff_not] at e
    omega
  · cases q2; cases q3; cases q4
    rw [← encRs_inj q1]
    exact ⟨hc, h⟩
theorem form_word (rs : List Rule) (n : Int) : formR rs n ∈ wordsR rs := by
  induction rs with
  | nil => simp [formR, wordsR]
  | cons r s ih =>
    unfold formR
    unfold wordsR at ih ⊢
    split
    · simp
    · simp only [List.map_cons, List.cons_append, List.mem_cons]; exact .inr ih
end FW

namespace FW
open PySem PySem.Spec L2
local macro_rules | `(tactic| walk_at "fw") => `(tactic| simp only [startW, endW, sRet, sRetN, sNext, sSeq, sDrop, sIf, sAsg, sRaise, sPar, sBreak, sCont, gSet, gTupN, gsetN, gSub, oSet, wC, wVar, getS0, getSs, wOp, wUn, wAnd, wOr, wNot, wTru, wTAnd, wTOr, wTNot, wTB, wChain, wIf, wCB, wCall, wNil, wCons, wTup, wLst, wLstM, wDct, wSl, wP, wNoP, wBM, wIt, wRange1, wRange2, wLc, wLcM, sFor, Tgt.wg, Tgt.slots, wipeW, wLam, wCallV, wSortSet, wListZip, wZip, wMaxD, wLenSet, capsOf, lamW, gTupG, gAll, wSetd, wDctM,
  List.map_cons, List.map_nil, List.length_cons, List.length_nil, List.replicate, List.append_nil, List.nil_append, List.cons_append, List.getElem?_cons_zero, List.getElem?_cons_succ, List.set_cons_zero, List.set_cons_succ, if_true, true_and, and_true])
end FW

namespace FW
open PySem PySem.Spec L2
def N_parted : List Str := ["one", "other", "cuts", "turn", "number"]
/-- parted -/
def t_parted (c_long_of c_cuts_of c_need_rules c_form : Con) (h_least_of_3 : W → Con → Con) : WS := (sSeq (sDrop (wCall 1 c_need_rules (wCons (wVar 0) wNil)))
    (sSeq (sDrop (wCall 1 c_need_rules (wCons (wVar 1) wNil)))
    (sSeq (sPar [2, 3] (wCons (wOp oAdd (wCall 1 c_cuts_of (wCons (wVar 0) wNil)) (wCall 1 c_cuts_of (wCons (wVar 1) wNil))) (wCons (wCB fMax (wCons (wCall 1 c_long_of (wCons (wVar 0) wNil)) (wCons (wCall 1 c_long_of (wCons (wVar 1) wNil)) wNil))) wNil)))
    (sRet (wLam h_least_of_3 5 [0, 1] [4] (wOp (oEq true) (wCall 2 c_form (wCons (wVar 0) (wCons (wVar 4) wNil))) (wCall 2 c_form (wCons (wVar 1) (wCons (wVar 4) wNil)))) 3 (wCons (wVar 2) (wCons (wVar 3) wNil)))))))
end FW

namespace FW
open PySem PySem.Spec L2
local macro_rules | `(tactic| walk_at "fw") => `(tactic| simp only [startW, endW, sRet, sRetN, sNext, sSeq, sDrop, sIf, sAsg, sRaise, sPar, sBreak, sCont, gSet, gTupN, gsetN, gSub, oSet, wC, wVar, getS0, getSs, wOp, wUn, wAnd, wOr, wNot, wTru, wTAnd, wTOr, wTNot, wTB, wChain, wIf, wCB, wCall, wNil, wCons, wTup, wLst, wLstM, wDct, wSl, wP, wNoP, wBM, wIt, wRange1, wRange2, wLc, wLcM, sFor, Tgt.wg, Tgt.slots, wipeW, wLam, wCallV, wSortSet, wListZip, wZip, wMaxD, wLenSet, capsOf, lamW, gTupG, gAll, wSetd, wDctM,
  List.map_cons, List.map_nil, List.length_cons, List.length_nil, List.replicate, List.append_nil, List.nil_append, List.cons_append, List.getElem?_cons_zero, List.getElem?_cons_succ, List.set_cons_zero, List.set_cons_succ, if_true, true_and, and_true])
def partR (a b : List Rule) (n : Int) : Bool := formR a n != formR b n
theorem per_partR {a b : List Rule} (ha : ∀ r ∈ a, okC 6 r.2) (hb : ∀ r ∈ b, okC 6 r.2) : Per (partR a b) (cutsR a ++ cutsR b) (max (longR a) (longR b)) := by
  obtain ⟨t1, _⟩ := longR_is ha
  obtain ⟨t2, _⟩ := longR_is hb
  have tm := isTurn_max t1 t2
  exact Per.map2 (fun x y => x != y) ((per_formR ha).mono (fun e he => List.mem_append_left _ he) (isTurn_dvd t1 tm (by omega))) ((per_formR hb).mono (fun e he => List.mem_append_right _ he) (isTurn_dvd t2 tm (by omega)))
def c_parted : Con := fun ws m R Z => match ws with
  | [w, v] => noRef w = true ∧ rulesFit w = true ∧ noRef v = true ∧ rulesFit v = true ∧ (isRules w = false ∨ isRules v = false → Z { cls := "BadRules" } m) ∧
    ∀ a b, w = encRs a → v = encRs b → okRs a → okRs b → (cutsR a).length + (cutsR b).length ≤ 4000 ∧ ∀ r, LeastIs (partR a b) 0 r → R (optI r) m
  | _ => False
theorem parted_at {a b : List Rule} {m : Sto} {R : WR} {Z : WZ} (g : okRs a) (g' : okRs b) (hc : (cutsR a).length + (cutsR b).length ≤ 4000) (h : ∀ r, LeastIs (partR a b) 0 r → R (optI r) m) : c_parted [encRs a, encRs b] m R Z := by
  refine ⟨noRef_rs a, fit_rs g, noRef_rs b, fit_rs g', fun h => ?_, fun a' b' e1 e2 _ _ => ?_⟩
  · rw [rules_enc g, rules_enc g'] at h; simp at h
  · rw [← encRs_inj e1, ← encRs_inj e2]; exact ⟨hc, h⟩
theorem b_parted : ∀ ws m R Z, ws.length = 2 → c_parted ws m R Z → t_parted c_long_of c_cuts_of c_need_rules c_form h_least_of_3 (endW R Z) (startW N_parted ws) m := by
  intro ws m R Z hl h
  obtain ⟨w, v, rfl⟩ := two hl
  obtain ⟨h1, h2, h1', h2', h3, hR⟩ := h
  unfold t_parted N_parted
  walk_at "fw"
  refine ⟨h1, h2, fun hc => ?_, fun hc => h3 (.inl hc)⟩
  refine ⟨h1', h2', fun hd => ?_, fun hd => h3 (.inr hd)⟩
  obtain ⟨a, rfl, oka⟩ := rules_dec hc
  obtain ⟨b, rfl, okb⟩ := rules_dec hd
  obtain ⟨hlen, hR⟩ := hR a b rfl rfl oka okb
  have ha := oka.cond
  have hb := okb.cond
  have tt := isTurn_pos (isTurn_max (longR_is ha).1 (longR_is hb).1)
  refine ⟨a, rfl, oka.1, fun r hr => (oka.2.1 r hr).2.2, b, rfl, okb.1, fun r hr => (okb.2.1 r hr).2.2, ?_⟩
  simp only [oAdd, lstOfT]
  refine ⟨size_ok (by simp; omega), a, rfl, oka.1, ha, b, rfl, okb.1, hb, ?_⟩
  simp only [fMax, max_if]
  intro F
  refine ⟨rfl, partR a b, cutsR a ++ cutsR b, ?_, by simp; omega, tt.1, tt.2, Int.le_refl _, by decide, fun e he => ?_, per_partR ha hb, ?_, hR⟩
  · rw [← List.map_append]; exact intsW_map _
  · have p16 : (10 : Int) ^ 16 = 10000000000000000 := by decide
    rcases List.mem_append.mp he with he | he
    · obtain ⟨r, hr, h⟩ := cutsR_from he
      have := edges_le (ha r hr) h; omega
    · obtain ⟨r, hr, h⟩ := cutsR_from he
      have := edges_le (hb r hr) h; omega
  · intro k _ _ R' Z' hR'
    refine ⟨rfl, a, rfl, ha, b, rfl, hb, ?_⟩
    unfold partR at hR'
    simp only [oEq, scalW]
    have e : (formR a k != formR b k) = (decide (formR a k = formR b k) ^^ true) := by
      by_cases h : formR a k = formR b k <;> simp [h]
    rw [e] at hR'
    exact hR'
def NearRs (rs : List Rule) : Prop := okRs rs ∧ rs.length ≤ 4 ∧ ∀ r ∈ rs, partsC r.2 ≤ 15
theorem cut_lo {l : List W} {k : Nat} (h : k ≤ l.length) : cutW l none (some (k : Int)) = l.take k := by
  unfold cutW
  have a1 : HT.sIx l.length 0 none = 0 := rfl
  have a2 : HT.sIx l.length l.length (some (k : Int)) = k := by
    have q : ¬ ((k : Int) < 0) := by omega
    simp [HT.sIx, q]
    omega
  rw [a1, a2, List.drop_zero, Nat.sub_zero]
end FW

namespace FW
open PySem PySem.Spec L2
local macro_rules | `(tactic| walk_at "fw") => `(tactic| simp only [startW, endW, sRet, sRetN, sNext, sSeq, sDrop, sIf, sAsg, sRaise, sPar, sBreak, sCont, gSet, gTupN, gsetN, gSub, oSet, wC, wVar, getS0, getSs, wOp, wUn, wAnd, wOr, wNot, wTru, wTAnd, wTOr, wTNot, wTB, wChain, wIf, wCB, wCall, wNil, wCons, wTup, wLst, wLstM, wDct, wSl, wP, wNoP, wBM, wIt, wRange1, wRange2, wLc, wLcM, sFor, Tgt.wg, Tgt.slots, wipeW, wLam, wCallV, wSortSet, wListZip, wZip, wMaxD, wLenSet, capsOf, lamW, gTupG, gAll, wSetd, wDctM,
  List.map_cons, List.map_nil, List.length_cons, List.length_nil, List.replicate, List.append_nil, List.nil_append, List.cons_append, List.getElem?_cons_zero, List.getElem?_cons_succ, List.set_cons_zero, List.set_cons_succ, if_true, true_and, and_true])
end FW

namespace FW
open PySem PySem.Spec L2
local macro_rules | `(tactic| walk_at "fw") => `(tactic| simp only [startW, endW, sRet, sRetN, sNext, sSeq, sDrop, sIf, sAsg, sRaise, sPar, sBreak, sCont, gSet, gTupN, gsetN, gSub, oSet, wC, wVar, getS0, getSs, wOp, wUn, wAnd, wOr, wNot, wTru, wTAnd, wTOr, wTNot, wTB, wChain, wIf, wCB, wCall, wNil, wCons, wTup, wLst, wLstM, wDct, wSl, wP, wNoP, wBM, wIt, wRange1, wRange2, wLc, wLcM, sFor, Tgt.wg, Tgt.slots, wipeW, wLam, wCallV, wSortSet, wListZip, wZip, wMaxD, wLenSet, capsOf, lamW, gTupG, gAll, wSetd, wDctM,
  List.map_cons, List.map_nil, List.length_cons, List.length_nil, List.replicate, List.append_nil, List.nil_append, List.cons_append, List.getElem?_cons_zero, List.getElem?_cons_succ, List.set_cons_zero, List.set_cons_succ, if_true, true_and, and_true])
end FW

namespace FW
open PySem PySem.Spec L2
local macro_rules | `(tactic| walk_at "fw") => `(tactic| simp only [startW, endW, sRet, sRetN, sNext, sSeq, sDrop, sIf, sAsg, sRaise, sPar, sBreak, sCont, gSet, gTupN, gsetN, gSub, oSet, wC, wVar, getS0, getSs, wOp, wUn, wAnd, wOr, wNot, wTru, wTAnd, wTOr, wTNot, wTB, wChain, wIf, wCB, wCall, wNil, wCons, wTup, wLst, wLstM, wDct, wSl, wP, wNoP, wBM, wIt, wRange1, wRange2, wLc, wLcM, sFor, Tgt.wg, Tgt.slots, wipeW, wLam, wCallV, wSortSet, wListZip, wZip, wMaxD, wLenSet, capsOf, lamW, gTupG, gAll, wSetd, wDctM,
  List.map_cons, List.map_nil, List.length_cons, List.length_nil, List.replicate, List.append_nil, List.nil_append, List.cons_append, List.getElem?_cons_zero, List.getElem?_cons_succ, List.set_cons_zero, List.set_cons_succ, if_true, true_and, and_true])
theorem near_cuts {rs : List Rule} (h : NearRs rs) : (cutsR rs).length ≤ 800 := by
  have h1 := cutsR_len (rs := rs) (B := 180) fun r hr => by
    have h1 := edges_len 6 r.2 (h.1.cond r hr)
    have h2 := h.2.2 r hr
    omega
  have h2 : rs.length * 180 ≤ 4 * 180 := Nat.mul_le_mul_right _ h.2.1
  omega
theorem part_far {a b : List Rule} (ha : ∀ r ∈ a, okC 6 r.2) (hb : ∀ r ∈ b, okC 6 r.2) {x : Int} (h : LeastIs (partR a b) 0 (some x)) : x < farL ((a ++ b).map (·.2)) := by
  obtain ⟨t1, _⟩ := longR_is ha
  obtain ⟨t2, _⟩ := longR_is hb
  have tt := isTurn_pos (isTurn_max t1 t2)
  have mem : ∀ r, r ∈ a ∨ r ∈ b → r.2 ∈ (a ++ b).map (·.2) := fun r hr => List.mem_map.mpr ⟨r, List.mem_append.mpr hr, rfl⟩
  have hE : ∀ e ∈ cutsR a ++ cutsR b, e ≤ lmax (((a ++ b).map (·.2)).map endC ++ [0]) := fun e he => by
    have : ∃ r, (r ∈ a ∨ r ∈ b) ∧ okC 6 r.2 ∧ e ∈ edgesC r.2 := by
      rcases List.mem_append.mp he with he | he
      · obtain ⟨r, hr, h2⟩ := cutsR_from he; exact ⟨r, .inl hr, ha r hr, h2⟩
      · obtain ⟨r, hr, h2⟩ := cutsR_from he; exact ⟨r, .inr hr, hb r hr, h2⟩
    obtain ⟨r, hr, ok, h2⟩ := this
    have h3 := (endC_ok 6 r.2 ok).2.2 e h2
    have h4 := lmax_ge (l := ((a ++ b).map (·.2)).map endC ++ [0]) (x := endC r.2) (List.mem_append_left _ (List.mem_map.mpr ⟨r.2, mem r hr, rfl⟩))
    omega
  have h0 := lmax_ge (l := ((a ++ b).map (·.2)).map endC ++ [0]) (x := 0) (by simp)
  have := least_lt tt.1 (per_partR ha hb) hE h
  have hL : ∀ rs : List Rule, (∀ r ∈ rs, r ∈ a ∨ r ∈ b) → longR rs ≤ lmax (((a ++ b).map (·.2)).map turnC ++ [1]) := fun rs hs => by
    have h1 := lmax_ge (l := ((a ++ b).map (·.2)).map turnC ++ [1]) (x := 1) (by simp)
    unfold longR
    cases rs with
    | nil => exact h1
    | cons r s =>
      refine lmax_le _ (by simp) fun y hy => ?_
      obtain ⟨q, hq, rfl⟩ := List.mem_map.mp hy
      exact lmax_ge (List.mem_append_left _ (List.mem_map.mpr ⟨q.2, mem q (hs q hq), rfl⟩))
  have l1 := hL a fun r hr => .inl hr
  have l2 := hL b fun r hr => .inr hr
  unfold farL
  omega
end FW

namespace FW
open PySem PySem.Spec L2
local macro_rules | `(tactic| walk_at "fw") => `(tactic| simp only [startW, endW, sRet, sRetN, sNext, sSeq, sDrop, sIf, sAsg, sRaise, sPar, sBreak, sCont, gSet, gTupN, gsetN, gSub, oSet, wC, wVar, getS0, getSs, wOp, wUn, wAnd, wOr, wNot, wTru, wTAnd, wTOr, wTNot, wTB, wChain, wIf, wCB, wCall, wNil, wCons, wTup, wLst, wLstM, wDct, wSl, wP, wNoP, wBM, wIt, wRange1, wRange2, wLc, wLcM, sFor, Tgt.wg, Tgt.slots, wipeW, wLam, wCallV, wSortSet, wListZip, wZip, wMaxD, wLenSet, capsOf, lamW, gTupG, gAll, wSetd, wDctM,
  List.map_cons, List.map_nil, List.length_cons, List.length_nil, List.replicate, List.append_nil, List.nil_append, List.cons_append, List.getElem?_cons_zero, List.getElem?_cons_succ, List.set_cons_zero, List.set_cons_succ, if_true, true_and, and_true])
end FW

namespace FW
open PySem PySem.Spec L2
def N_shortest : List Str := ["turn", "many"]
/-- shortest -/
def t_shortest (c_last_of : Con) : WS := (sSeq (sFor (wRange2 (wCons (wC (.int 1)) (wCons (wOp oAdd (wCB fLen (wCons (wVar 0) wNil)) (wC (.int 1))) wNil))) (Tgt.nm 1).wg (sIf (wTAnd (wTB (wOp (oEq false) (wCall 2 c_last_of (wCons (wCB fLen (wCons (wVar 0) wNil)) (wCons (wVar 1) wNil))) (wC (.int 0)))) (wTB (wOp (oEq false) (wOp oMul (wSl (wVar 0) wNoP (wP (wVar 1))) (wOp oDiv (wCB fLen (wCons (wVar 0) wNil)) (wVar 1))) (wVar 0)))) (sRet (wSl (wVar 0) wNoP (wP (wVar 1)))) sNext))
    (sRet (wVar 0)))
def N_least_table : List Str := ["rules", "begin", "ahead", "turn", "number"]
/-- least_table -/
def t_least_table (c_shortest c_long_of c_form c_cuts_of c_need_rules : Con) : WS := (sSeq (sDrop (wCall 1 c_need_rules (wCons (wVar 0) wNil)))
    (sSeq (sAsg (wCB fMax (wCons (wOp oAdd (wCall 1 c_cuts_of (wCons (wVar 0) wNil)) (wLst (wCons (wC (.int 0)) wNil))) wNil)) (gSet 1))
    (sSeq (sAsg (wLcM (wRange1 (wCons (wVar 1) wNil)) (.nm 4) wYes (wCall 2 c_form (wCons (wVar 0) (wCons (wVar 4) wNil)))) (gSet 2))
    (sSeq (sAsg (wCall 1 c_shortest (wCons (wLc (wRange2 (wCons (wVar 1) (wCons (wOp oAdd (wVar 1) (wCall 1 c_long_of (wCons (wVar 0) wNil))) wNil))) (.nm 4) wYes (wCall 2 c_form (wCons (wVar 0) (wCons (wVar 4) wNil)))) wNil)) (gSet 3))
    (sSeq (sWhile (wTAnd (wTB (wOp (oEq true) (wVar 2) (wLst wNil))) (wTB (wOp (oEq false) (wOp oIx (wVar 2) (wUn oNeg (wC (.int 1)))) (wOp oIx (wVar 3) (wUn oNeg (wC (.int 1))))))) (sSeq (sAsg (wOp oAdd (wSl (wVar 3) (wP (wUn oNeg (wC (.int 1)))) wNoP) (wSl (wVar 3) wNoP (wP (wUn oNeg (wC (.int 1)))))) (gSet 3))
    (sDrop (wBM "list" mPop (wVar 2) wNil))))
    (sRet (wTup (wCons (wCB fTuple (wCons (wVar 2) wNil)) (wCons (wCB fTuple (wCons (wVar 3) wNil)) wNil)))))))))
def N_is_row : List Str := ["thing", "one"]
/-- is_row -/
def t_is_row (c_is_name : Con) : WS := (sRet (wAnd (wUn (oIsi "tuple") (wVar 0)) (wCB fAll (wCons (wLc (wIt (wVar 0)) (.nm 1) wYes (wCall 1 c_is_name (wCons (wVar 1) wNil))) wNil))))
def N_by_table : List Str := ["table", "number"]
/-- by_table -/
def t_by_table (c_last_of c_need_number c_is_row : Con) : WS := (sSeq (sIf (wTOr (wTNot (wTru (wUn (oIsi "tuple") (wVar 0)))) (wTOr (wTB (wOp (oEq true) (wCB fLen (wCons (wVar 0) wNil)) (wC (.int 2)))) (wTOr (wTNot (wTru (wCall 1 c_is_row (wCons (wOp oIx (wVar 0) (wC (.int 0))) wNil)))) (wTNot (wTru (wCall 1 c_is_row (wCons (wOp oIx (wVar 0) (wC (.int 1))) wNil))))))) (sRaise "BadRules") sNext)
    (sSeq (sIf (wTB (wOp (oEq false) (wOp oIx (wVar 0) (wC (.int 1))) (wTup wNil))) (sRaise "BadRules") sNext)
    (sSeq (sDrop (wCall 1 c_need_number (wCons (wVar 1) wNil)))
    (sSeq (sIf (wTB (wOp oLt (wVar 1) (wCB fLen (wCons (wOp oIx (wVar 0) (wC (.int 0))) wNil)))) (sRet (wOp oIx (wOp oIx (wVar 0) (wC (.int 0))) (wVar 1))) sNext)
    (sRet (wOp oIx (wOp oIx (wVar 0) (wC (.int 1))) (wCall 2 c_last_of (wCons (wOp oSub (wVar 1) (wCB fLen (wCons (wOp oIx (wVar 0) (wC (.int 0))) wNil))) (wCons (wCB fLen (wCons (wOp oIx (wVar 0) (wC (.int 1))) wNil)) wNil)))))))))
end FW

namespace FW
open PySem PySem.Spec L2
local macro_rules | `(tactic| walk_at "fw") => `(tactic| simp only [startW, endW, sRet, sRetN, sNext, sSeq, sDrop, sIf, sAsg, sRaise, sPar, sBreak, sCont, gSet, gTupN, gsetN, gSub, oSet, wC, wVar, getS0, getSs, wOp, wUn, wAnd, wOr, wNot, wTru, wTAnd, wTOr, wTNot, wTB, wChain, wIf, wCB, wCall, wNil, wCons, wTup, wLst, wLstM, wDct, wSl, wP, wNoP, wBM, wIt, wRange1, wRange2, wLc, wLcM, sFor, Tgt.wg, Tgt.slots, wipeW, wLam, wCallV, wSortSet, wListZip, wZip, wMaxD, wLenSet, capsOf, lamW, gTupG, gAll, wSetd, wDctM,
  List.map_cons, List.map_nil, List.length_cons, List.length_nil, List.replicate, List.append_nil, List.nil_append, List.cons_append, List.getElem?_cons_zero, List.getElem?_cons_succ, List.set_cons_zero, List.set_cons_succ, if_true, true_and, and_true])
theorem flat_get {α : Type} {l : List α} (hl : 0 < l.length) : ∀ (n i : Nat), i < n * l.length → (List.replicate n l).flatten[i]? = l[i % l.length]?
  | 0, i, h => by simp at h
  | n + 1, i, h => by
    rw [List.replicate_succ, List.flatten_cons]
    by_cases hi : i < l.length
    · rw [List.getElem?_append_left hi, Nat.mod_eq_of_lt hi]
    · rw [List.getElem?_append_right (by omega), flat_get hl n (i - l.length) (by rw [Nat.add_mul] at h; omega)]
      congr 1
      rw [Nat.mod_eq_sub_mod (show l.length ≤ i by omega)]
/-- U goes round by q -/
def Rnd (U : List Str) (q : Nat) : Prop := ∀ i, i < U.length → U[i]? = U[i % q]?
theorem rep_iff {U : List Str} {q : Nat} (h0 : 0 < q) (hd : q ∣ U.length) : (List.replicate (U.length / q) (U.take q)).flatten = U ↔ Rnd U q := by
  by_cases hL : U.length = 0
  · have : U = [] := List.length_eq_zero_iff.mp hL
    subst this
    simp [Rnd]
  have hq : q ≤ U.length := Nat.le_of_dvd (by omega) hd
  have tl : (U.take q).length = q := by simp; omega
  have hm : U.length / q * q = U.length := Nat.div_mul_cancel hd
  have get : ∀ i, i < U.length → (List.replicate (U.length / q) (U.take q)).flatten[i]? = U[i % q]? := fun i hi => by
    rw [flat_get (by omega) _ i (by rw [tl, hm]; exact hi), tl, List.getElem?_take, if_pos (Nat.mod_lt _ h0)]
  constructor
  · intro e i hi
    rw [← get i hi, e]
  · intro h
    apply List.ext_getElem?
    intro i
    by_cases hi : i < U.length
    · rw [get i hi]; exact (h i hi).symm
    · rw [List.getElem?_eq_none (by rw [List.length_flatten]; simp [tl, hm]; omega), List.getElem?_eq_none (by omega)]
def Prim (U : List Str) : Prop := ∀ q, 0 < q → q < U.length → q ∣ U.length → ¬ Rnd U q
theorem prim_take {U : List Str} {k : Nat} (h0 : 0 < k) (hd : k ∣ U.length) (hk : Rnd U k) (hle : k ≤ U.length) (hmin : ∀ q, 0 < q → q < k → q ∣ U.length → ¬ Rnd U q) : Prim (U.take k) := by
  have tl : (U.take k).length = k := by simp; omega
  intro q q0 qk qd hq
  rw [tl] at qk qd
  refine hmin q q0 qk (Nat.dvd_trans qd hd) fun i hi => ?_
  have hik := Nat.mod_lt i h0
  have h1 := hq (i % k) (by rw [tl]; exact hik)
  rw [Nat.mod_mod_of_dvd _ qd, List.getElem?_take, if_pos hik, List.getElem?_take, if_pos (by have := Nat.mod_lt i q0; omega)] at h1
  rw [hk i hi, h1]
def rot (U : List Str) : List Str := U.drop (U.length - 1) ++ U.take (U.length - 1)
theorem rot_len (U : List Str) : (rot U).length = U.length := by simp only [rot, List.length_append, List.length_drop, List.length_take]; omega
theorem rot_get {U : List Str} {i : Nat} (hi : i < U.length) : (rot U)[i]? = U[(i + (U.length - 1)) % U.length]? := by
  unfold rot
  by_cases h : i = 0
  · subst h
    rw [List.getElem?_append_left (by simp; omega), List.getElem?_drop]
    congr 1
    rw [Nat.mod_eq_of_lt (by omega)]; omega
  · rw [List.getElem?_append_right (by simp; omega)]
    simp only [List.length_drop]
    rw [List.getElem?_take, if_pos (by omega)]
    congr 1
    rw [show i + (U.length - 1) = (i - 1) + U.length by omega, Nat.add_mod_right, Nat.mod_eq_of_lt (by omega)]
    omega
theorem prim_rot {U : List Str} (h : Prim U) : Prim (rot U) := by
  intro q q0 ql qd hq
  rw [rot_len] at ql qd
  refine h q q0 ql qd fun j hj => ?_
  have hL : 0 < U.length := by omega
  -- U[j] = V[(j + 1) % L]
  have back : ∀ j, j < U.length → U[j]? = (rot U)[(j + 1) % U.length]? := fun j hj => by
    rw [rot_get (Nat.mod_lt _ hL)]
    congr 1
    rw [Nat.mod_add_mod, show j + 1 + (U.length - 1) = j + U.length by omega, Nat.add_mod_right, Nat.mod_eq_of_lt hj]
  have hjq : j % q < U.length := by have := Nat.mod_lt j q0; omega
  rw [back j hj, back _ hjq, hq _ (by rw [rot_len]; exact Nat.mod_lt _ hL), hq ((j % q + 1) % U.length) (by rw [rot_len]; exact Nat.mod_lt _ hL)]
  congr 1
  rw [Nat.mod_mod_of_dvd _ qd, Nat.mod_mod_of_dvd _ qd, Nat.mod_add_mod]
def tabAt (A U : List Str) (n : Nat) : Option Str := if n < A.length then A[n]? else U[(n - A.length) % U.length]?
theorem tab_pop {A U : List Str} {a : Str} (hL : 0 < U.length) (ha : U[U.length - 1]? = some a) (n : Nat) : tabAt A (rot U) n = tabAt (A ++ [a]) U n := by
  unfold tabAt
  rw [rot_len]
  by_cases h1 : n < A.length
  · rw [if_pos h1, if_pos (by simp; omega), List.getElem?_append_left h1]
  · rw [if_neg h1]
    by_cases h2 : n = A.length
    · subst h2
      rw [if_pos (by simp), List.getElem?_append_right (Nat.le_refl _)]
      simp only [Nat.sub_self, Nat.zero_mod, List.getElem?_cons_zero]
      rw [rot_get hL, ← ha]
      congr 1
      rw [Nat.zero_add, Nat.mod_eq_of_lt (by omega)]
    · rw [if_neg (by simp; omega), rot_get (Nat.mod_lt _ hL)]
      congr 1
      simp only [List.length_append, List.length_cons, List.length_nil]
      rw [Nat.mod_add_mod, show n - A.length + (U.length - 1) = (n - (A.length + (0 + 1))) + U.length by omega, Nat.add_mod_right]
end FW

namespace FW
open PySem PySem.Spec L2
local macro_rules | `(tactic| walk_at "fw") => `(tactic| simp only [startW, endW, sRet, sRetN, sNext, sSeq, sDrop, sIf, sAsg, sRaise, sPar, sBreak, sCont, gSet, gTupN, gsetN, gSub, oSet, wC, wVar, getS0, getSs, wOp, wUn, wAnd, wOr, wNot, wTru, wTAnd, wTOr, wTNot, wTB, wChain, wIf, wCB, wCall, wNil, wCons, wTup, wLst, wLstM, wDct, wSl, wP, wNoP, wBM, wIt, wRange1, wRange2, wLc, wLcM, sFor, Tgt.wg, Tgt.slots, wipeW, wLam, wCallV, wSortSet, wListZip, wZip, wMaxD, wLenSet, capsOf, lamW, gTupG, gAll, wSetd, wDctM,
  List.map_cons, List.map_nil, List.length_cons, List.length_nil, List.replicate, List.append_nil, List.nil_append, List.cons_append, List.getElem?_cons_zero, List.getElem?_cons_succ, List.set_cons_zero, List.set_cons_succ, if_true, true_and, and_true])
theorem rangeW_len (lo : Int) (n : Nat) : (rangeW lo n).length = n := by simp [rangeW]
theorem rangeW_drop {lo : Int} {n i : Nat} (h : i < n) : (rangeW lo n).drop i = .int (lo + i) :: (rangeW lo n).drop (i + 1) := by
  have hl : i < (rangeW lo n).length := by rw [rangeW_len]; exact h
  rw [List.drop_eq_getElem_cons hl]
  congr 1
  simp [rangeW]
/-- for i in range(..) -/
theorem for_range {still : Sto → Prop} {gt : WG} {body : WS} {T : EW} {lo : Int} {n : Nat} (I : Nat → List (Option W) → Sto → Prop)
    (step : ∀ i, i < n → ∀ d m, I i d m → ∀ P : List (Option W) → Sto → Prop, (∀ d' m', I (i + 1) d' m' → P d' m') → still m ∧ gt (.int (lo + i)) d m (fun d1 m1 => body { T with nx := P, ct := P, bk := T.nx } d1 m1))
    (fin : ∀ d m, I n d m → still m ∧ T.nx d m) (d : List (Option W)) (m : Sto) (h : I 0 d m) : sForL still gt body T (rangeW lo n) d m := by
  refine for_inv (I := fun ws d m => ∃ i, i ≤ n ∧ ws = (rangeW lo n).drop i ∧ I i d m) ?_ ?_ _ d m ⟨0, Nat.zero_le _, by simp, h⟩
  · rintro w ws d m ⟨i, hi, ew, hI⟩ P hP
    by_cases hlt : i < n
    · rw [rangeW_drop hlt] at ew
      obtain ⟨rfl, rfl⟩ := List.cons.inj ew
      exact step i hlt d m hI P fun d' m' h' => hP d' m' ⟨i + 1, hlt, rfl, h'⟩
    · rw [List.drop_eq_nil_of_le (by rw [rangeW_len]; omega)] at ew
      cases ew
  · rintro d m ⟨i, hi, ew, hI⟩
    have : i = n := by
      by_cases hlt : i < n
      · rw [rangeW_drop hlt] at ew; cases ew
      · omega
    subst this
    exact fin d m hI
/-- while, by a measure -/
theorem wh_inv {c : WT} {body : WS} {T : EW} (I : Nat → List (Option W) → Sto → Prop)
    (step : ∀ n d m, I n d m → ∀ P : List (Option W) → Sto → Prop, (∀ k d' m', k < n → I k d' m' → P d' m') → c d m (fun b m1 => if b = true then body { T with nx := P, ct := P, bk := T.nx } d m1 else T.nx d m1) T.ex) :
    ∀ (N n : Nat) d m, n < N → I n d m → whGo c body T N d m
  | 0, n, d, m, h, _ => by omega
  | N + 1, n, d, m, h, hI => by
    unfold whGo
    exact step n d m hI _ fun k d' m' hk hI' => wh_inv I step N k d' m' (by omega) hI'
theorem while_inv {c : WT} {body : WS} {T : EW} (I : Nat → List (Option W) → Sto → Prop)
    (step : ∀ n d m, I n d m → ∀ P : List (Option W) → Sto → Prop, (∀ k d' m', k < n → I k d' m' → P d' m') → c d m (fun b m1 => if b = true then body { T with nx := P, ct := P, bk := T.nx } d m1 else T.nx d m1) T.ex)
    (n : Nat) (d : List (Option W)) (m : Sto) (h : I n d m) : sWhile c body T d m := ⟨n + 1, wh_inv I step (n + 1) n d m (Nat.lt_succ_self n) h⟩
/-- no truths, no changing things, at most so deep -/
def pl : Nat → W → Bool
  | _, .non => true
  | _, .int _ => true
  | _, .str x => PyData.strOk x
  | k + 1, .tup l => l.all (pl k)
  | k + 1, .lst l => l.all (pl k)
  | _, _ => false
theorem pl_snaps {k : Nat} (ih : ∀ w, pl k w = true → ∃ d, snap0 w = some d ∧ d.canLay0 = true ∧ d.depth ≤ k) : ∀ l : List W, l.all (pl k) = true → ∃ ds, snaps l = some ds ∧ PyData.canLayAll0 ds = true ∧ PyData.depthAll ds ≤ k
  | [], _ => ⟨[], rfl, by simp [PyData.canLayAll0], by simp [PyData.depthAll]⟩
  | w :: r, h => by
    rw [List.all_cons, Bool.and_eq_true] at h
    obtain ⟨d, h1, h2, h3⟩ := ih w h.1
    obtain ⟨ds, k1, k2, k3⟩ := pl_snaps ih r h.2
    refine ⟨d :: ds, by unfold snaps; rw [h1, k1], by simp [PyData.canLayAll0, h2, k2], ?_⟩
    simp only [PyData.depthAll]
    omega
theorem pl_snap : ∀ (k : Nat) (w : W), pl k w = true → ∃ d, snap0 w = some d ∧ d.canLay0 = true ∧ d.depth ≤ k := by
  intro k
  induction k with
  | zero =>
    intro w h
    cases w with
    | non => exact ⟨_, by unfold snap0; rfl, by simp [PyData.canLay0], by simp [PyData.depth]⟩
    | int i => exact ⟨_, by unfold snap0; rfl, by simp [PyData.canLay0], by simp [PyData.depth]⟩
    | str x =>
      simp only [pl] at h
      exact ⟨_, by unfold snap0; rfl, by simpa [PyData.canLay0] using h, by simp [PyData.depth]⟩
    | _ => simp only [pl] at h; cases h
  | succ k ih =>
    intro w h
    cases w with
    | non => exact ⟨_, by unfold snap0; rfl, by simp [PyData.canLay0], by simp [PyData.depth]⟩
    | int i => exact ⟨_, by unfold snap0; rfl, by simp [PyData.canLay0], by simp [PyData.depth]⟩
    | str x =>
      simp only [pl] at h
      exact ⟨_, by unfold snap0; rfl, by simpa [PyData.canLay0] using h, by simp [PyData.depth]⟩
    | tup l =>
      simp only [pl] at h
      obtain ⟨ds, h1, h2, h3⟩ := pl_snaps ih l h
      exact ⟨.tuple ds, by unfold snap0; rw [h1], by simpa [PyData.canLay0] using h2, by simp only [PyData.depth]; omega⟩
    | lst l =>
      simp only [pl] at h
      obtain ⟨ds, h1, h2, h3⟩ := pl_snaps ih l h
      exact ⟨.list ds, by unfold snap0; rw [h1], by simpa [PyData.canLay0] using h2, by simp only [PyData.depth]; omega⟩
    | _ => simp only [pl] at h; cases h
theorem pl_eqvs {k j : Nat} (ih : ∀ a b d e, pl k a = true → pl j b = true → snap0 a = some d → snap0 b = some e → (PyData.eqv d e = true ↔ a = b)) : ∀ (l r : List W) ds es, l.all (pl k) = true → r.all (pl j) = true → snaps l = some ds → snaps r = some es → (PyData.eqvAll ds es = true ↔ l = r)
  | [], [], _, _, _, _, h1, h2 => by cases h1; cases h2; simp [PyData.eqvAll]
  | [], b :: r, _, es, _, _, h1, h2 => by
    cases h1
    unfold snaps at h2
    split at h2
    · cases h2; simp [PyData.eqvAll]
    · cases h2
  | a :: l, [], ds, _, _, _, h1, h2 => by
    cases h2
    unfold snaps at h1
    split at h1
    · cases h1; simp [PyData.eqvAll]
    · cases h1
  | a :: l, b :: r, ds, es, ha, hb, h1, h2 => by
    rw [List.all_cons, Bool.and_eq_true] at ha hb
    unfold snaps at h1 h2
    split at h1
    · rename_i d1 ds1 q1 q2
      cases h1
      split at h2
      · rename_i e1 es1 q3 q4
        cases h2
        have i1 := ih a b d1 e1 ha.1 hb.1 q1 q3
        have i2 := pl_eqvs ih l r ds1 es1 ha.2 hb.2 q2 q4
        simp only [PyData.eqvAll, Bool.and_eq_true, i1, i2, List.cons.injEq]
      · cases h2
    · cases h1
theorem pl_eqv : ∀ (k j : Nat) (a b : W) d e, pl k a = true → pl j b = true → snap0 a = some d → snap0 b = some e → (PyData.eqv d e = true ↔ a = b) := by
  intro k
  induction k with
  | zero =>
    intro j a b d e ha hb h1 h2
    cases a <;> simp only [pl] at ha <;> first
      | (cases ha; done)
      | skip
    all_goals
      unfold snap0 at h1
      cases h1
      cases b <;> first
        | (unfold snap0 at h2; cases h2; simp [PyData.eqv]; done)
        | (cases j <;> simp only [pl] at hb <;> cases hb; done)
        | (unfold snap0 at h2; split at h2 <;> first | (cases h2; done) | (cases h2; simp [PyData.eqv]; done))
  | succ k ih =>
    intro j a b d e ha hb h1 h2
    cases a with
    | tup l =>
      simp only [pl] at ha
      unfold snap0 at h1
      cases q : snaps l with
      | none => rw [q] at h1; cases h1
      | some ds =>
        rw [q] at h1; cases h1
        cases b with
        | tup r =>
          cases j with
          | zero => simp only [pl] at hb; cases hb
          | succ j =>
            simp only [pl] at hb
            unfold snap0 at h2
            cases q2 : snaps r with
            | none => rw [q2] at h2; cases h2
            | some es =>
              rw [q2] at h2; cases h2
              have := pl_eqvs (fun a b d e => ih j a b d e) l r ds es ha hb q q2
              simpa [PyData.eqv] using this
        | _ => first
          | (unfold snap0 at h2; cases h2; simp [PyData.eqv]; done)
          | (cases j <;> simp only [pl] at hb <;> cases hb; done)
          | (unfold snap0 at h2; split at h2 <;> first | (cases h2; done) | (cases h2; simp [PyData.eqv]; done))
    | lst l =>
      simp only [pl] at ha
      unfold snap0 at h1
      cases q : snaps l with
      | none => rw [q] at h1; cases h1
      | some ds =>
        rw [q] at h1; cases h1
        cases b with
        | lst r =>
          cases j with
          | zero => simp only [pl] at hb; cases hb
          | succ j =>
            simp only [pl] at hb
            unfold snap0 at h2
            cases q2 : snaps r with
            | none => rw [q2] at h2; cases h2
            | some es =>
              rw [q2] at h2; cases h2
              have := pl_eqvs (fun a b d e => ih j a b d e) l r ds es ha hb q q2
              simpa [PyData.eqv] using this
        | _ => first
          | (unfold snap0 at h2; cases h2; simp [PyData.eqv]; done)
          | (cases j <;> simp only [pl] at hb <;> cases hb; done)
          | (unfold snap0 at h2; split at h2 <;> first | (cases h2; done) | (cases h2; simp [PyData.eqv]; done))
    | _ =>
      first
        | (simp only [pl] at ha; cases ha; done)
        | (unfold snap0 at h1
           cases h1
           cases b <;> first
            | (unfold snap0 at h2; cases h2; simp [PyData.eqv]; done)
            | (cases j <;> simp only [pl] at hb <;> cases hb; done)
            | (unfold snap0 at h2; split at h2 <;> first | (cases h2; done) | (cases h2; simp [PyData.eqv]; done)))
/-- a plain thing, or a changing list of plain things -/
def plM (m : Sto) (k : Nat) (w v : W) : Prop := pl k v = true ∧ (w = v ∨ ∃ n l, w = .ref n ∧ m[n]? = some (.lst l) ∧ v = .lst l)
theorem plM.snap {m : Sto} {k : Nat} {w v : W} (h : plM m k w v) : snap m w = snap0 v := by
  obtain ⟨h1, rfl | ⟨n, l, rfl, e, rfl⟩⟩ := h
  · cases w <;> first | rfl | (cases k <;> simp only [pl] at h1 <;> cases h1)
  · unfold FW.snap
    simp only [e]
    unfold snap0
    rfl
theorem eq_pl {neg : Bool} {x y vx vy : W} {m : Sto} {R : WR} {k j : Nat} (hx : plM m k x vx) (hy : plM m j y vy) (hk : k ≤ 60) (hj : j ≤ 60) (h : ∀ b : Bool, (b = true ↔ vx = vy) → R (.bl (b ^^ neg)) m) : oEq neg x y m R := by
  obtain ⟨d, h1, h2, h3⟩ := pl_snap k vx hx.1
  obtain ⟨e, g1, g2, g3⟩ := pl_snap j vy hy.1
  have q := pl_eqv k j vx vy d e hx.1 hy.1 h1 g1
  have sx : snap m x = some d := hx.snap.trans h1
  have sy : snap m y = some e := hy.snap.trans g1
  unfold oEq
  cases hs : scalW x y with
  | some b =>
    refine h b ?_
    have ex : x = vx := by
      rcases hx.2 with e | ⟨n, l, rfl, _, _⟩
      · exact e
      · cases hs
    have ey : y = vy := by
      rcases hy.2 with e | ⟨n, l, rfl, _, _⟩
      · exact e
      · cases x <;> cases hs
    subst ex ey
    cases x <;> cases y <;> simp [scalW] at hs <;> subst hs <;> simp
  | none =>
    simp only [sx, sy]
    exact ⟨by unfold SeqAt.shaped; rw [h2, Bool.true_and]; exact decide_eq_true (by omega), by unfold SeqAt.shaped; rw [g2, Bool.true_and]; exact decide_eq_true (by omega), h _ q⟩
theorem plM_of {m : Sto} {k : Nat} {w : W} (h : pl k w = true) : plM m k w w := ⟨h, .inl rfl⟩
theorem pl_strs {U : List Str} (h : ∀ z ∈ U, PyData.strOk z = true) (k : Nat) : (U.map W.str).all (pl k) = true := by
  rw [List.all_eq_true]
  intro w hw
  obtain ⟨z, hz, rfl⟩ := List.mem_map.mp hw
  cases k <;> exact h z hz
theorem map_str_inj {a b : List Str} : a.map W.str = b.map W.str ↔ a = b := by
  constructor
  · intro h
    induction a generalizing b with
    | nil => cases b with
      | nil => rfl
      | cons _ _ => cases h
    | cons x r ih => cases b with
      | nil => cases h
      | cons y s =>
        simp only [List.map_cons, List.cons.injEq, W.str.injEq] at h
        rw [h.1, ih h.2]
  · rintro rfl; rfl
/-- two rows of texts -/
theorem eq_strs {neg : Bool} {U V : List Str} {m : Sto} {R : WR} (hu : ∀ z ∈ U, PyData.strOk z = true) (hv : ∀ z ∈ V, PyData.strOk z = true) (h : R (.bl (decide (U = V) ^^ neg)) m) : oEq neg (.lst (U.map W.str)) (.lst (V.map W.str)) m R := by
  refine eq_pl (k := 1) (j := 1) (plM_of (by simpa [pl] using pl_strs hu 0)) (plM_of (by simpa [pl] using pl_strs hv 0)) (by decide) (by decide) fun b hb => ?_
  have : b = decide (U = V) := by
    rw [Bool.eq_iff_iff, hb, decide_eq_true_iff, W.lst.injEq, map_str_inj]
  rw [this]; exact h
theorem eq_strsT {neg : Bool} {U V : List Str} {m : Sto} {R : WR} (hu : ∀ z ∈ U, PyData.strOk z = true) (hv : ∀ z ∈ V, PyData.strOk z = true) (h : R (.bl (decide (U = V) ^^ neg)) m) : oEq neg (.tup (U.map W.str)) (.tup (V.map W.str)) m R := by
  refine eq_pl (k := 1) (j := 1) (plM_of (by simpa [pl] using pl_strs hu 0)) (plM_of (by simpa [pl] using pl_strs hv 0)) (by decide) (by decide) fun b hb => ?_
  have : b = decide (U = V) := by
    rw [Bool.eq_iff_iff, hb, decide_eq_true_iff, W.tup.injEq, map_str_inj]
  rw [this]; exact h
theorem oEq_int {neg : Bool} {a b : Int} {m : Sto} {R : WR} : oEq neg (.int a) (.int b) m R = R (.bl (decide (a = b) ^^ neg)) m := rfl
theorem oEq_str {neg : Bool} {a b : Str} {m : Sto} {R : WR} : oEq neg (.str a) (.str b) m R = R (.bl (decide (a = b) ^^ neg)) m := rfl
theorem q_dropP {e : WE} {u : WS} {T : EW} {d : List (Option W)} {m : Sto} (Post : Sto → Prop) (h : ∀ K : WR, (∀ v m', Post m' → K v m') → e d m K T.ex) (k : ∀ m', Post m' → u T d m') : sSeq (sDrop e) u T d m := h (fun _ m1 => u T d m1) fun _ m' hp => k m' hp
theorem q_for {it : WI} {gt : WG} {body u : WS} {T : EW} {d : List (Option W)} {m : Sto} (Post : List W → (Sto → Prop) → Sto → Prop) (h : ∀ Q : List W → (Sto → Prop) → Sto → Prop, (∀ l st m', Post l st m' → Q l st m') → it d m Q T.ex)
    (k : ∀ l st m', Post l st m' → sForL st gt body { T with nx := u T } l d m') : sSeq (sFor it gt body) u T d m := h _ k
theorem r_for {it : WI} {gt : WG} {body : WS} {T : EW} {d : List (Option W)} {m : Sto} (Post : List W → (Sto → Prop) → Sto → Prop) (h : ∀ Q : List W → (Sto → Prop) → Sto → Prop, (∀ l st m', Post l st m' → Q l st m') → it d m Q T.ex)
    (k : ∀ l st m', Post l st m' → sForL st gt body T l d m') : sFor it gt body T d m := h _ k
end FW

namespace FW
open PySem PySem.Spec L2
local macro_rules | `(tactic| walk_at "fw") => `(tactic| simp only [startW, endW, sRet, sRetN, sNext, sSeq, sDrop, sIf, sAsg, sRaise, sPar, sBreak, sCont, gSet, gTupN, gsetN, gSub, oSet, wC, wVar, getS0, getSs, wOp, wUn, wAnd, wOr, wNot, wTru, wTAnd, wTOr, wTNot, wTB, wChain, wIf, wCB, wCall, wNil, wCons, wTup, wLst, wLstM, wDct, wSl, wP, wNoP, wBM, wIt, wRange1, wRange2, wLc, wLcM, sFor, Tgt.wg, Tgt.slots, wipeW, wLam, wCallV, wSortSet, wListZip, wZip, wMaxD, wLenSet, capsOf, lamW, gTupG, gAll, wSetd, wDctM,
  List.map_cons, List.map_nil, List.length_cons, List.length_nil, List.replicate, List.append_nil, List.nil_append, List.cons_append, List.getElem?_cons_zero, List.getElem?_cons_succ, List.set_cons_zero, List.set_cons_succ, if_true, true_and, and_true])
def c_shortest : Con := fun ws m R _ => match ws with
  | [w] => ∃ U : List Str, w = .lst (U.map W.str) ∧ 1 ≤ U.length ∧ U.length ≤ 1000 ∧ (∀ z ∈ U, PyData.strOk z = true) ∧
    ∀ k, 0 < k → k ≤ U.length → k ∣ U.length → Rnd U k → (∀ q, 0 < q → q < k → q ∣ U.length → ¬ Rnd U q) → R (.lst ((U.take k).map W.str)) m
  | _ => False
theorem cut_take {U : List Str} {k : Nat} (h : k ≤ U.length) : cutW (U.map W.str) none (some (k : Int)) = (U.take k).map W.str := by
  rw [cut_lo (by simpa using h), List.map_take]
theorem rnd_self (U : List Str) : Rnd U U.length := fun i hi => by rw [Nat.mod_eq_of_lt hi]
theorem b_shortest : ∀ ws m R Z, ws.length = 1 → c_shortest ws m R Z → t_shortest c_last_of (endW R Z) (startW N_shortest ws) m := by
  intro ws m R Z hl h
  obtain ⟨w, rfl⟩ := one hl
  obtain ⟨U, rfl, h1, h2, hs, hR⟩ := h
  have h62 := p62
  have h64 := p64'
  unfold t_shortest N_shortest
  have e0 : ∀ w, startW ["turn", "many"] [w] = [some w, none] := fun _ => rfl
  rw [e0]
  refine r_seq ?_
  have hlen : ∀ m0, lenW m0 (.lst (U.map W.str)) = some U.length := fun m0 => by simp [lenW, seqOf, lstOf]
  walk_at "fw"
  simp only [fLen, hlen, oAdd]
  refine ⟨by omega, by omega, by omega, by omega, ?_⟩
  rw [show ((U.length : Int) + 1 - 1).toNat = U.length by omega]
  refine for_range (I := fun i d m' => m' = m ∧ (∃ a, d = [some (.lst (U.map W.str)), a]) ∧ ∀ q, 0 < q → q ≤ i → q ∣ U.length → ¬ Rnd U q) ?_ ?_ _ m ⟨rfl, ⟨none, rfl⟩, fun q h0 hq => by omega⟩
  · rintro i hi d m' ⟨rfl, ⟨a, rfl⟩, hno⟩ P hP
    refine ⟨trivial, ?_⟩
    obtain ⟨q, hq⟩ : ∃ q : Nat, q = i + 1 := ⟨_, rfl⟩
    have eq1 : (1 : Int) + (i : Int) = (q : Int) := by omega
    rw [eq1]
    have ql : q ≤ U.length := by omega
    have tl : (U.take q).length = q := by simp; omega
    have rl : (List.replicate (U.length / q) (U.take q)).flatten.length ≤ U.length := by
      rw [List.length_flatten]
      simp [tl]
      exact Nat.div_mul_le_self _ _
    show sIf _ _ _ _ [some (W.lst (U.map W.str)), some (.int (q : Int))] m'
    have emod : ((U.length : Int) % (q : Int) = 0) ↔ q ∣ U.length := by
      rw [← Int.dvd_iff_emod_eq_zero, Int.natCast_dvd_natCast]
    by_cases hd : q ∣ U.length
    · by_cases hr : Rnd U q
      · refine r_yes m' (fun K hK => ?_) ?_
        · walk_at "fw"
          simp only [fLen, hlen, oEq_int]
          refine ⟨by omega, by omega, ?_⟩
          simp only [emod.mpr hd, decide_true, Bool.xor_false, if_true, oSl, lstOf, cut_take ql, oDiv, fLen, hlen, List.length_map]
          refine ⟨⟨by omega, log2_small (by omega) (by omega)⟩, ?_⟩
          rw [show (U.length : Int) / (q : Int) = ((U.length / q : Nat) : Int) by simp]
          have tq : U.length / q ≤ U.length := Nat.div_le_self _ _
          have tm := Nat.mul_div_le U.length q
          have rq := rep_iff (U := U) (q := q) (by omega) hd
          generalize U.length / q = t at *
          simp only [oMul, lstOfT]
          refine ⟨by omega, ?_, ?_, ?_⟩
          · have h63 : (2 : Int) ^ 63 = 9223372036854775808 := by decide
            omega
          · simp only [List.length_map, tl, Int.toNat_natCast]
            refine size_ok ?_
            omega
          · rw [Int.toNat_natCast, show (List.replicate (t) ((U.take q).map W.str)).flatten = (List.replicate t (U.take q)).flatten.map W.str by simp [List.map_flatten]]
            rw [rq.mpr hr]
            refine eq_strs hs hs ?_
            simpa using hK
        · walk_at "fw"
          simp only [oSl, lstOf, cut_take ql]
          exact hR q (by omega) ql hd hr fun q' h0 h1 h2 => hno q' h0 (by omega) h2
      · refine r_skip m' (fun K hK => ?_) ?_
        · walk_at "fw"
          simp only [fLen, hlen, oEq_int]
          refine ⟨by omega, by omega, ?_⟩
          simp only [emod.mpr hd, decide_true, Bool.xor_false, if_true, oSl, lstOf, cut_take ql, oDiv, fLen, hlen, List.length_map]
          refine ⟨⟨by omega, log2_small (by omega) (by omega)⟩, ?_⟩
          rw [show (U.length : Int) / (q : Int) = ((U.length / q : Nat) : Int) by simp]
          have tq : U.length / q ≤ U.length := Nat.div_le_self _ _
          have tm := Nat.mul_div_le U.length q
          have rq := rep_iff (U := U) (q := q) (by omega) hd
          generalize U.length / q = t at *
          simp only [oMul, lstOfT]
          refine ⟨by omega, ?_, ?_, ?_⟩
          · have h63 : (2 : Int) ^ 63 = 9223372036854775808 := by decide
            omega
          · simp only [List.length_map, tl, Int.toNat_natCast]
            refine size_ok ?_
            omega
          · rw [Int.toNat_natCast, show (List.replicate (t) ((U.take q).map W.str)).flatten = (List.replicate t (U.take q)).flatten.map W.str by simp [List.map_flatten]]
            refine eq_strs (fun z hz => ?_) hs ?_
            · obtain ⟨l, hl, hzl⟩ := List.mem_flatten.mp hz
              rw [List.eq_of_mem_replicate hl] at hzl
              exact hs z (List.mem_of_mem_take hzl)
            · have : ¬ (List.replicate t (U.take q)).flatten = U := fun e => hr (rq.mp e)
              simpa [this] using hK
        · refine hP _ _ ⟨rfl, ⟨_, rfl⟩, fun q' h0 h1 h2 => ?_⟩
          by_cases e : q' = q
          · subst e; exact hr
          · exact hno q' h0 (by omega) h2
    · refine r_skip m' (fun K hK => ?_) ?_
      · walk_at "fw"
        simp only [fLen, hlen, oEq_int]
        refine ⟨by omega, by omega, ?_⟩
        have : ¬ (U.length : Int) % (q : Int) = 0 := fun e => hd (emod.mp e)
        simpa [oEq_int, this] using hK
      · refine hP _ _ ⟨rfl, ⟨_, rfl⟩, fun q' h0 h1 h2 => ?_⟩
        by_cases e : q' = q
        · subst e; exact absurd h2 hd
        · exact hno q' h0 (by omega) h2
  · rintro d m' ⟨rfl, ⟨a, rfl⟩, hno⟩
    exact absurd (rnd_self U) (hno U.length (by omega) (Nat.le_refl _) (Nat.dvd_refl _))
end FW

namespace FW
open PySem PySem.Spec L2
local macro_rules | `(tactic| walk_at "fw") => `(tactic| simp only [startW, endW, sRet, sRetN, sNext, sSeq, sDrop, sIf, sAsg, sRaise, sPar, sBreak, sCont, gSet, gTupN, gsetN, gSub, oSet, wC, wVar, getS0, getSs, wOp, wUn, wAnd, wOr, wNot, wTru, wTAnd, wTOr, wTNot, wTB, wChain, wIf, wCB, wCall, wNil, wCons, wTup, wLst, wLstM, wDct, wSl, wP, wNoP, wBM, wIt, wRange1, wRange2, wLc, wLcM, sFor, Tgt.wg, Tgt.slots, wipeW, wLam, wCallV, wSortSet, wListZip, wZip, wMaxD, wLenSet, capsOf, lamW, gTupG, gAll, wSetd, wDctM,
  List.map_cons, List.map_nil, List.length_cons, List.length_nil, List.replicate, List.append_nil, List.nil_append, List.cons_append, List.getElem?_cons_zero, List.getElem?_cons_succ, List.set_cons_zero, List.set_cons_succ, if_true, true_and, and_true])
theorem big_form {rs : List Rule} (hok : ∀ r ∈ rs, okC 6 r.2) {B : Int} (hB : ∀ e ∈ cutsR rs, e ≤ B) {n : Int} (hn : B ≤ n) : formR rs n = formR rs (B + (n - B) % longR rs) := by
  obtain ⟨hT, _⟩ := longR_is hok
  have tt := isTurn_pos hT
  have P := per_formR hok
  have h1 := Int.emod_nonneg (n - B) (show longR rs ≠ 0 by omega)
  have h2 := Int.emod_add_mul_ediv (n - B) (longR rs)
  have h3 : 0 ≤ (n - B) / longR rs := Int.ediv_nonneg (by omega) (by omega)
  have h4 : 0 ≤ longR rs * ((n - B) / longR rs) := Int.mul_nonneg (by omega) h3
  refine (P (B + (n - B) % longR rs) n (by omega) ⟨(n - B) / longR rs, by omega⟩ fun e he => ?_).symm
  have := hB e he
  omega
structure IsTable (rs : List Rule) (A U : List Str) : Prop where
  at_ : ∀ n : Nat, tabAt A U n = some (formR rs (n : Int))
  prim : Prim U
  pos : 1 ≤ U.length
  len : (U.length : Int) ≤ longR rs
  ahead : A.length ≤ 1000001
  aok : ∀ z ∈ A, z ∈ wordsR rs
  uok : ∀ z ∈ U, z ∈ wordsR rs
def c_least_table : Con := fun ws m R Z => match ws with
  | [w] => noRef w = true ∧ rulesFit w = true ∧ (isRules w = false → Z { cls := "BadRules" } m) ∧
    ∀ rs, w = encRs rs → okRs rs → ∀ A U o, IsTable rs A U → (∀ a, A.getLast? = some a → U.getLast? ≠ some a) → R (.tup [.tup (A.map W.str), .tup (U.map W.str)]) (m ++ [o])
  | _ => False
theorem lmax_le' : ∀ {l : List Int} {M : Int}, l ≠ [] → (∀ x ∈ l, x ≤ M) → lmax l ≤ M := fun h k => k _ (lmax_mem h)
theorem last_snoc {U : List Str} (h : 1 ≤ U.length) : ∃ V u, U = V ++ [u] := ⟨U.dropLast, U.getLast (by intro e; subst e; simp at h), (List.dropLast_concat_getLast _).symm⟩
theorem rot_snoc (V : List Str) (u : Str) : rot (V ++ [u]) = u :: V := by
  unfold rot
  simp
theorem b_least_table : ∀ ws m R Z, ws.length = 1 → c_least_table ws m R Z → t_least_table c_shortest c_long_of c_form c_cuts_of c_need_rules (endW R Z) (startW N_least_table ws) m := by
  intro ws m R Z hl h
  obtain ⟨w, rfl⟩ := one hl
  obtain ⟨h1, h2, hB, hR⟩ := h
  have h62 := p62
  unfold t_least_table N_least_table
  have e0 : ∀ w, startW ["rules", "begin", "ahead", "turn", "number"] [w] = [some w, none, none, none, none] := fun _ => rfl
  rw [e0]
  refine q_dropP (fun m' => m = m' ∧ isRules w = true) (fun K hK => ?_) ?_
  · walk_at "fw"
    exact ⟨h1, h2, fun hr => hK _ _ ⟨rfl, hr⟩, hB⟩
  rintro m0 ⟨e0, hr⟩
  subst e0
  obtain ⟨rs, rfl, ok⟩ := rules_dec hr
  have hok := ok.cond
  obtain ⟨hT, _⟩ := longR_is hok
  have tt := isTurn_pos hT
  have hgood : ∀ r ∈ rs, GoodC r.2 := fun r hr => (ok.2.1 r hr).2.2
  have cl : (cutsR rs).length ≤ 6 * 720 := by
    have := cutsR_len (rs := rs) (B := 720) fun r hr => by
      have h1 := edges_len 6 r.2 (hok r hr)
      have h2 := (hgood r hr).2
      omega
    have h6 : rs.length * 720 ≤ 6 * 720 := Nat.mul_le_mul_right _ ok.1
    omega
  -- begin
  obtain ⟨B, hBd⟩ : ∃ B, B = lmax (cutsR rs ++ [0]) := ⟨_, rfl⟩
  have hB0 : 0 ≤ B := by rw [hBd]; exact lmax_ge (by simp)
  have hBe : ∀ e ∈ cutsR rs, e ≤ B := fun e he => by rw [hBd]; exact lmax_ge (by simp [he])
  have hB1 : B ≤ 1000001 := by
    rw [hBd]
    refine lmax_le' (by simp) fun x hx => ?_
    rcases List.mem_append.mp hx with hx | hx
    · obtain ⟨r, hr, he⟩ := cutsR_from hx
      exact edges_le (hok r hr) he
    · simp at hx; omega
  show sSeq _ _ _ [some (encRs rs), none, none, none, none] m
  refine q_asg (.int B) m (fun K hK => ?_) ?_
  · walk_at "fw"
    refine ⟨rs, rfl, ok.1, hgood, ?_⟩
    refine ⟨by decide, ?_⟩
    simp only [oAdd, lstOfT]
    refine ⟨size_ok (by simp; omega), ?_⟩
    have e1 : lintOf m (.lst ((cutsR rs).map W.int ++ [.int 0])) = some (cutsR rs ++ [0]) := by
      show intsW _ = _
      rw [show (cutsR rs).map W.int ++ [W.int 0] = (cutsR rs ++ [0]).map W.int by simp]
      exact intsW_map _
    simp only [fMax, e1]
    refine ⟨by simp, ?_⟩
    rw [← hBd]; exact hK
  show sSeq _ _ _ [some (encRs rs), some (.int B), none, none, none] m
  have hlet : ∀ n, formR rs n ∈ wordsR rs := form_word rs
  have wok : ∀ z ∈ wordsR rs, PyData.strOk z = true := fun z hz => word_strOk ok hz
  -- ahead
  have fN : ∀ (lo : Int) (N : Nat), (rangeW lo N).map (fun w => W.str (formR rs (toI w))) = ((List.range N).map fun (i : Nat) => formR rs (lo + (i : Int))).map W.str := fun lo N => by
    simp [rangeW, toI, Function.comp_def]
  refine q_asg (.ref m.length) (m ++ [.lst ((formsL rs B.toNat).map W.str)]) (fun K hK => ?_) ?_
  · walk_at "fw"
    refine ⟨by omega, by omega, ?_⟩
    refine lc_map (fun w => W.str (formR rs (toI w))) trivial _ [] (big_size (by rw [rangeW_len]; simp; omega)) (fun w hw K' hK' => ?_) ?_
    · obtain ⟨i, hi, rfl⟩ := List.mem_map.mp hw
      walk_at "fw"
      exact ⟨rs, rfl, hok, hK'⟩
    · rw [fN, List.nil_append]
      simpa [formsL] using hK
  generalize hm1 : m ++ [Ob.lst ((formsL rs B.toNat).map W.str)] = m1
  show sSeq _ _ _ [some (encRs rs), some (.int B), some (.ref m.length), none, none] m1
  -- turn
  obtain ⟨F, hF⟩ : ∃ F : List Str, F = (List.range (longR rs).toNat).map fun (i : Nat) => formR rs (B + (i : Int)) := ⟨_, rfl⟩
  have Fl : F.length = (longR rs).toNat := by rw [hF]; simp
  have Fw : ∀ z ∈ F, z ∈ wordsR rs := fun z hz => by
    rw [hF] at hz
    obtain ⟨i, _, rfl⟩ := List.mem_map.mp hz
    exact hlet _
  have Fg : ∀ i, i < F.length → F[i]? = some (formR rs (B + (i : Int))) := fun i hi => by
    rw [hF] at hi ⊢
    simp at hi
    simp [hi]
  refine q_asgP (fun v m2 => m1 = m2 ∧ ∃ k, v = .lst ((F.take k).map W.str) ∧ 0 < k ∧ k ≤ F.length ∧ k ∣ F.length ∧ Rnd F k ∧ ∀ q, 0 < q → q < k → q ∣ F.length → ¬ Rnd F q) (fun K hK => ?_) ?_
  · walk_at "fw"
    refine ⟨rs, rfl, ok.1, hok, ?_⟩
    simp only [oAdd]
    refine ⟨by omega, by omega, by omega, by omega, ?_⟩
    rw [show (B + longR rs - B).toNat = (longR rs).toNat by omega]
    refine lc_map (fun w => W.str (formR rs (toI w))) trivial _ [] (big_size (by rw [rangeW_len]; simp; omega)) (fun w hw K' hK' => ?_) ?_
    · obtain ⟨i, hi, rfl⟩ := List.mem_map.mp hw
      walk_at "fw"
      exact ⟨rs, rfl, hok, hK'⟩
    · rw [fN, List.nil_append, ← hF]
      exact ⟨F, rfl, by omega, by omega, fun z hz => wok z (Fw z hz), fun k k0 k1 k2 k3 k4 => hK _ _ ⟨rfl, k, rfl, k0, k1, k2, k3, k4⟩⟩
  rintro _ m2 ⟨rfl, k, rfl, k0, k1, k2, k3, k4⟩
  have tl : (F.take k).length = k := by simp; omega
  have T0 : IsTable rs (formsL rs B.toNat) (F.take k) := by
    refine ⟨fun n => ?_, prim_take k0 k2 k3 k1 k4, by omega, by omega, by rw [formsL_len]; omega, fun z hz => ?_, fun z hz => Fw z (List.mem_of_mem_take hz)⟩
    · unfold tabAt
      rw [formsL_len, tl]
      by_cases hn : n < B.toNat
      · rw [if_pos hn, formsL_get hn]
      · rw [if_neg hn]
        have hk := Nat.mod_lt (n - B.toNat) k0
        rw [List.getElem?_take, if_pos hk]
        have hL : (0 : Nat) < F.length := by omega
        have e1 : ((n - B.toNat) % F.length) % k = (n - B.toNat) % k := Nat.mod_mod_of_dvd _ k2
        have e2 := k3 ((n - B.toNat) % F.length) (Nat.mod_lt _ hL)
        rw [e1] at e2
        rw [← e2, Fg _ (Nat.mod_lt _ hL)]
        congr 1
        rw [big_form hok hBe (n := (n : Int)) (by omega)]
        congr 2
        rw [Fl]
        have : ((n - B.toNat : Nat) : Int) = (n : Int) - B := by omega
        rw [Int.natCast_emod, this]
        congr 1
        omega
    · unfold formsL at hz
      obtain ⟨i, _, rfl⟩ := List.mem_map.mp hz
      exact hlet _
  show sSeq _ _ _ [some (encRs rs), some (.int B), some (.ref m.length), some (.lst ((F.take k).map W.str)), none] m1
  refine r_seq ?_
  have ep : ∀ A : List Str, (m ++ [Ob.lst (A.map W.str)])[m.length]? = some (.lst (A.map W.str)) := fun A => by simp
  refine while_inv (I := fun n d m' => ∃ A U a4, n = A.length ∧ d = [some (encRs rs), some (.int B), some (.ref m.length), some (.lst (U.map W.str)), a4] ∧ m' = m ++ [.lst (A.map W.str)] ∧ IsTable rs A U) ?_ _ _ _ ⟨formsL rs B.toNat, F.take k, none, rfl, rfl, hm1.symm, T0⟩
  rintro n d m' ⟨A, U, a4, rfl, rfl, rfl, T⟩ P hP
  have aok : ∀ z ∈ A, PyData.strOk z = true := fun z hz => wok z (T.aok z hz)
  obtain ⟨V, u, rfl⟩ := last_snoc T.pos
  have fin : (∀ a, A.getLast? = some a → (V ++ [u]).getLast? ≠ some a) → sRet (wTup (wCons (wCB fTuple (wCons (wVar 2) wNil)) (wCons (wCB fTuple (wCons (wVar 3) wNil)) wNil))) (endW R Z) [some (encRs rs), some (.int B), some (.ref m.length), some (.lst ((V ++ [u]).map W.str)), a4] (m ++ [.lst (A.map W.str)]) := fun hlast => by
    walk_at "fw"
    simp only [fTuple, seqOf, lstOf, ep]
    exact ⟨by decide, hR rs rfl ok A (V ++ [u]) _ T hlast⟩
  have plA : plM (m ++ [.lst (A.map W.str)]) 1 (.ref m.length) (.lst (A.map W.str)) := ⟨by simpa [pl] using pl_strs aok 0, .inr ⟨_, _, rfl, ep A, rfl⟩⟩
  walk_at "fw"
  refine ⟨by decide, ?_⟩
  refine eq_pl (k := 1) (j := 1) plA (plM_of (w := .lst []) rfl) (by decide) (by decide) fun b hb => ?_
  by_cases hA : A = []
  · subst hA
    have : b = true := hb.mpr rfl
    subst this
    simp only [Bool.xor_self, Bool.false_eq_true, if_false]
    exact fin fun a ha => by cases ha
  · obtain ⟨A', a, rfl⟩ : ∃ A' a, A = A' ++ [a] := last_snoc (List.length_pos_iff.mpr hA)
    have : b = false := by
      cases b with
      | false => rfl
      | true => have := hb.mp rfl; simp at this
    subst this
    have x1 : oIx (.ref m.length) (.int (-1)) (m ++ [.lst ((A' ++ [a]).map W.str)]) = fun R => R (.str a) (m ++ [.lst ((A' ++ [a]).map W.str)]) := by
      funext R
      simp only [oIx, seqOf, lstOf, ep]
      rw [List.map_append, List.map_cons, List.map_nil, atI_l]
    have x2 : ∀ m0, oIx (.lst ((V ++ [u]).map W.str)) (.int (-1)) m0 = fun R => R (.str u) m0 := fun m0 => by
      funext R
      simp only [oIx, seqOf, lstOf]
      rw [List.map_append, List.map_cons, List.map_nil, atI_l]
    simp only [Bool.xor_true, Bool.not_false, if_true, oNeg, x1, x2, oEq, scalW, Bool.xor_false]
    by_cases hau : a = u
    · subst hau
      simp only [decide_true, if_true]
      have c1 : cutW ((V ++ [a]).map W.str) (some (-1)) none = [W.str a] := by
        rw [List.map_append, List.map_cons, List.map_nil]
        unfold cutW
        have : HT.sIx (V.map W.str ++ [W.str a]).length 0 (some (-1)) = V.length := by simp [HT.sIx]; omega
        rw [this]
        simp [HT.sIx]
      have c2 : cutW ((V ++ [a]).map W.str) none (some (-1)) = V.map W.str := by
        rw [List.map_append, List.map_cons, List.map_nil]
        exact cutW_m1
      simp only [oSl, lstOf, c1, c2, oAdd, lstOfT]
      have vl : V.length + 1 ≤ 1000 := by
        have := T.len
        simp at this
        omega
      refine ⟨size_ok (by simp; omega), ?_⟩
      refine ⟨⟨rfl, by simp [lstOf]⟩, ?_⟩
      simp only [mPop, ep]
      have e5 : ((A' ++ [a]).map W.str)[((A' ++ [a]).map W.str).length - 1]? = some (.str a) := by simp
      rw [e5]
      have e6 : (m ++ [Ob.lst ((A' ++ [a]).map W.str)]).set m.length (.lst ((A' ++ [a]).map W.str).dropLast) = m ++ [.lst (A'.map W.str)] := by
        rw [set_last]
        simp
      simp only [e6]
      refine hP A'.length _ _ (by simp) ⟨A', a :: V, a4, rfl, rfl, rfl, ?_⟩
      have er := rot_snoc V a
      rw [← er]
      refine ⟨fun n => ?_, prim_rot T.prim, by rw [rot_len]; exact T.pos, by rw [rot_len]; exact T.len, ?_, fun z hz => T.aok z (by simp [hz]), fun z hz => T.uok z (by rw [er] at hz; simpa [or_comm] using hz)⟩
      · rw [tab_pop (a := a) T.pos (by simp)]
        exact T.at_ n
      · have := T.ahead
        simp at this
        omega
    · simp only [hau, decide_false, Bool.false_eq_true, if_false]
      exact fin fun a' ha' => by
        simp at ha'
        subst ha'
        simpa using fun e => hau e.symm
def isRow : W → Bool
  | .tup l => l.all isName
  | _ => false
def rowFit : W → Bool
  | .tup l => l.all strFit && decide (l.length ≤ 2000000)
  | _ => true
def c_is_row : Con := fun ws m R _ => match ws with
  | [w] => noRef w = true ∧ rowFit w = true ∧ R (.bl (isRow w)) m
  | _ => False
theorem b_is_row : ∀ ws m R Z, ws.length = 1 → c_is_row ws m R Z → t_is_row c_is_name (endW R Z) (startW N_is_row ws) m := by
  intro ws m R Z hl h
  obtain ⟨w, rfl⟩ := one hl
  obtain ⟨h1, h2, hR⟩ := h
  unfold t_is_row N_is_row
  have e0 : startW ["thing", "one"] [w] = [some w, none] := rfl
  rw [e0]
  walk_at "fw"
  refine isT_at h1 fun b hb => ?_
  cases b with
  | false =>
    have hw : isRow w = false := by
      cases w with
      | tup l => exact absurd (hb.mpr ⟨l, rfl⟩) (by decide)
      | _ => rfl
    rw [hw] at hR
    simpa [truW] using hR
  | true =>
    obtain ⟨l, rfl⟩ := hb.mp rfl
    simp only [rowFit, Bool.and_eq_true, decide_eq_true_eq] at h2
    have nl : ∀ w ∈ l, noRef w = true := noRefs_mem h1
    simp only [truW, if_true]
    refine lc_map (fun w => W.bl (isName w)) trivial l [] (big_size (by simp; omega)) (fun w hw K' hK' => ?_) ?_
    · walk_at "fw"
      exact ⟨ty_noRef (nl w hw), List.all_eq_true.mp h2.1 w hw, hK'⟩
    · have e4 : lblOf m (.lst (l.map fun w => W.bl (isName w))) = some (l.map isName) := boolsW_of _
      simp only [List.nil_append, fAll, e4, List.all_map]
      exact hR
def isTab : W → Bool
  | .tup [a, b] => isRow a && isRow b && (match b with
    | .tup [] => false
    | _ => true)
  | _ => false
def tabFit : W → Bool
  | .tup [a, b] => rowFit a && rowFit b
  | _ => true
def c_by_table : Con := fun ws m R Z => match ws with
  | [w, s] => noRef w = true ∧ tabFit w = true ∧ (tyW m s).isSome = true ∧ (isTab w = false → Z { cls := "BadRules" } m) ∧ (isTab w = true → isNum 0 (10 ^ 15) s = false → Z { cls := "BadNumber" } m) ∧
    ∀ A U n, w = .tup [.tup (A.map W.str), .tup (U.map W.str)] → (∀ z ∈ A, nameOk z = true) → (∀ z ∈ U, nameOk z = true) → 1 ≤ U.length → s = .int n → 0 ≤ n → n ≤ 10 ^ 15 → ∀ z, tabAt A U n.toNat = some z → R (.str z) m
  | _ => False
theorem names_of : ∀ {l : List W}, l.all isName = true → ∃ U : List Str, l = U.map W.str ∧ ∀ z ∈ U, nameOk z = true
  | [], _ => ⟨[], rfl, by simp⟩
  | w :: r, h => by
    rw [List.all_cons, Bool.and_eq_true] at h
    obtain ⟨U, rfl, hU⟩ := names_of h.2
    cases w with
    | str z => exact ⟨z :: U, rfl, fun y hy => by
        rcases List.mem_cons.mp hy with rfl | hy
        · exact h.1
        · exact hU y hy⟩
    | _ => cases h.1
theorem isTab_no {l : List W} (h : l.length ≠ 2) : isTab (.tup l) = false := by
  match l, h with
  | [], _ => rfl
  | [_], _ => rfl
  | [_, _], h => exact absurd rfl h
  | _ :: _ :: _ :: _, _ => rfl
theorem b_by_table : ∀ ws m R Z, ws.length = 2 → c_by_table ws m R Z → t_by_table c_last_of c_need_number c_is_row (endW R Z) (startW N_by_table ws) m := by
  intro ws m R Z hl h
  obtain ⟨w, s, rfl⟩ := two hl
  obtain ⟨h1, h2, h3, hB, hN, hR⟩ := h
  have h64 := p64'
  unfold t_by_table N_by_table
  have e0 : startW ["table", "number"] [w, s] = [some w, some s] := rfl
  rw [e0]
  refine r_seq ?_
  have bad : isTab w = false → ∀ T : EW, T.ex = Z → sRaise "BadRules" T [some w, some s] m := fun hb T e => by
    show T.ex _ m
    rw [e]; exact hB hb
  by_cases ht : ∃ l, w = .tup l
  rotate_left
  · have hw : isTab w = false := by
      cases w with
      | tup l => exact absurd ⟨l, rfl⟩ ht
      | _ => rfl
    refine r_yes m (fun K hK => ?_) (bad hw _ rfl)
    walk_at "fw"
    refine isT_at h1 fun b hb => ?_
    have : b = false := by cases b with
      | false => rfl
      | true => exact absurd (hb.mp rfl) ht
    subst this
    simpa [truW] using hK
  obtain ⟨l, rfl⟩ := ht
  by_cases h6 : l.length = 2
  rotate_left
  · refine r_yes m (fun K hK => ?_) (bad (isTab_no h6) _ rfl)
    walk_at "fw"
    refine isT_at h1 fun b hb => ?_
    have : b = true := hb.mpr ⟨l, rfl⟩
    subst this
    have : ¬ (l.length : Int) = 2 := by omega
    simpa [truW, fLen, lenW, seqOf, oEq, scalW, this] using hK
  obtain ⟨a, b, rfl⟩ := two h6
  have na : noRef a = true ∧ noRef b = true := ⟨noRefs_mem h1 a (by simp), noRefs_mem h1 b (by simp)⟩
  simp only [tabFit, Bool.and_eq_true] at h2
  have i0 : ∀ K : WR, oIx (.tup [a, b]) (.int 0) m K = K a m := fun K => by simp [oIx, seqOf, atI_0]
  have i1 : ∀ K : WR, oIx (.tup [a, b]) (.int 1) m K = K b m := fun K => by simp [oIx, seqOf, atI_1]
  refine r_if (!(isRow a && isRow b)) m (fun K hK => ?_) ?_
  · walk_at "fw"
    refine isT_at h1 fun b' hb => ?_
    have : b' = true := hb.mpr ⟨_, rfl⟩
    subst this
    simp only [truW, Bool.not_true, Bool.false_eq_true, if_false, fLen, lenW, seqOf, oEq, scalW, i0, i1, List.length_cons, List.length_nil]
    refine ⟨na.1, h2.1, ?_⟩
    cases ha : isRow a with
    | false => simpa [ha] using hK
    | true =>
      simp
      refine ⟨na.2, h2.2, ?_⟩
      simpa [ha, truW] using hK
  cases hab : (isRow a && isRow b) with
  | false =>
    simp only [Bool.not_false, if_true]
    exact bad (by simp [isTab, hab]) _ rfl
  | true =>
    simp only [Bool.not_true, Bool.false_eq_true, if_false]
    rw [Bool.and_eq_true] at hab
    refine r_next ?_
    cases a with
    | tup la =>
      cases b with
      | tup lb =>
        obtain ⟨A, rfl, hA⟩ := names_of hab.1
        obtain ⟨U, rfl, hU⟩ := names_of hab.2
        have uok : ∀ z ∈ U, PyData.strOk z = true := fun z hz => name_strOk (hU z hz)
        simp only [rowFit, Bool.and_eq_true, decide_eq_true_eq, List.length_map] at h2
        dsimp only []
        by_cases hu : U = []
        · subst hu
          refine q_yes m (fun K hK => ?_) ?_
          · walk_at "fw"
            simp only [List.map_nil] at i1
            rw [i1]
            refine ⟨by decide, ?_⟩
            refine eq_strsT (U := []) (V := []) (by simp) (by simp) ?_
            simpa using hK
          · exact hB (by simp [isTab])
        · have u1 : 1 ≤ U.length := List.length_pos_iff.mpr hu
          refine q_skip m (fun K hK => ?_) ?_
          · walk_at "fw"
            rw [i1]
            refine ⟨by decide, ?_⟩
            refine eq_strsT (U := U) (V := []) uok (by simp) ?_
            simpa [hu] using hK
          have ht : isTab (.tup [.tup (A.map W.str), .tup (U.map W.str)]) = true := by
            cases U with
            | nil => exact absurd rfl hu
            | cons x r =>
              simp only [isTab, hab.1, hab.2, Bool.and_self, Bool.true_and]
              rfl
          refine q_dropP (fun m' => m = m' ∧ isNum 0 (10 ^ 15) s = true) (fun K hK => ?_) ?_
          · walk_at "fw"
            exact ⟨h3, fun hs => hK _ _ ⟨rfl, hs⟩, hN ht⟩
          rintro m0 ⟨rfl, hs⟩
          obtain ⟨n, rfl, n0, n1⟩ := num_of hs
          have fin := fun z hz => hR A U n rfl hA hU u1 rfl n0 n1 z hz
          show sSeq _ _ (endW R Z) [some (W.tup [.tup (A.map W.str), .tup (U.map W.str)]), some (.int n)] m
          have lA : ∀ m0 (l : List Str), lenW m0 (.tup (l.map W.str)) = some l.length := fun m0 l => by simp [lenW, seqOf]
          by_cases hn : n.toNat < A.length
          · obtain ⟨z, hz⟩ : ∃ z, A[n.toNat]? = some z := ⟨_, List.getElem?_eq_getElem hn⟩
            refine q_yes m (fun K hK => ?_) ?_
            · walk_at "fw"
              simp only [i0, fLen, lA, oLt]
              have : n < (A.length : Int) := by omega
              simpa [this] using hK
            · walk_at "fw"
              rw [i0]
              have ea : atI (A.map W.str) n = some (.str z) := by
                have := atI_nat (l := A.map W.str) (i := n.toNat) (by simpa using hn)
                rw [show ((n.toNat : Nat) : Int) = n by omega] at this
                rw [this]
                simp [hz]
              simp only [oIx, seqOf, ea]
              exact fin _ (by unfold tabAt; rw [if_pos hn]; exact hz)
          · refine q_skip m (fun K hK => ?_) ?_
            · walk_at "fw"
              simp only [i0, fLen, lA, oLt]
              have : ¬ n < (A.length : Int) := by omega
              simpa [this] using hK
            · walk_at "fw"
              simp only [i0, i1, fLen, lA, oSub]
              refine ⟨by omega, by omega, ?_⟩
              have hj := Nat.mod_lt (n.toNat - A.length) u1
              have ej : (n - (A.length : Int)) % (U.length : Int) = (((n.toNat - A.length) % U.length : Nat) : Int) := by
                rw [Int.natCast_emod]
                congr 1
                omega
              obtain ⟨z, hz⟩ : ∃ z, U[(n.toNat - A.length) % U.length]? = some z := ⟨_, List.getElem?_eq_getElem hj⟩
              have ea : atI (U.map W.str) ((n - (A.length : Int)) % (U.length : Int)) = some (.str z) := by
                rw [ej, atI_nat (by simpa using hj)]
                simp [hz]
              simp only [oIx, seqOf, ea]
              exact fin _ (by unfold tabAt; rw [if_neg hn]; exact hz)
      | _ => cases hab.2
    | _ => cases hab.1
end FW

namespace FW
open PySem PySem.Spec L2
local macro_rules | `(tactic| walk_at "fw") => `(tactic| simp only [startW, endW, sRet, sRetN, sNext, sSeq, sDrop, sIf, sAsg, sRaise, sPar, sBreak, sCont, gSet, gTupN, gsetN, gSub, oSet, wC, wVar, getS0, getSs, wOp, wUn, wAnd, wOr, wNot, wTru, wTAnd, wTOr, wTNot, wTB, wChain, wIf, wCB, wCall, wNil, wCons, wTup, wLst, wLstM, wDct, wSl, wP, wNoP, wBM, wIt, wRange1, wRange2, wLc, wLcM, sFor, Tgt.wg, Tgt.slots, wipeW, wLam, wCallV, wSortSet, wListZip, wZip, wMaxD, wLenSet, capsOf, lamW, gTupG, gAll, wSetd, wDctM,
  List.map_cons, List.map_nil, List.length_cons, List.length_nil, List.replicate, List.append_nil, List.nil_append, List.cons_append, List.getElem?_cons_zero, List.getElem?_cons_succ, List.set_cons_zero, List.set_cons_succ, if_true, true_and, and_true])
theorem word_name {rs : List Rule} (ok : okRs rs) {z : Str} (h : z ∈ wordsR rs) : nameOk z = true := by
  unfold wordsR at h
  rcases List.mem_append.mp h with h | h
  · obtain ⟨r, hr, rfl⟩ := List.mem_map.mp h
    exact (ok.2.1 r hr).1
  · simp at h; subst h; decide +kernel
theorem name_len {z : Str} (h : nameOk z = true) : z.length ≤ 8 := by
  unfold nameOk at h
  simp only [Bool.and_eq_true, decide_eq_true_eq] at h
  exact h.1.2
theorem row_fit {U : List Str} (h : ∀ z ∈ U, nameOk z = true) (hl : U.length ≤ 2000000) : rowFit (.tup (U.map W.str)) = true := by
  simp only [rowFit, Bool.and_eq_true, List.all_eq_true, decide_eq_true_eq, List.length_map]
  refine ⟨fun w hw => ?_, hl⟩
  obtain ⟨z, hz, rfl⟩ := List.mem_map.mp hw
  have := name_len (h z hz)
  exact decide_eq_true (size_ok (by omega))
theorem noRef_strs (U : List Str) : noRefs (U.map W.str) = true := by
  induction U with
  | nil => rfl
  | cons x r ih => simp [noRefs, noRef, ih]
theorem noRef_tab (A U : List Str) : noRef (.tup [.tup (A.map W.str), .tup (U.map W.str)]) = true := by
  simp [noRef, noRefs, noRef_strs]
/-- by_table with the table of rules -/
theorem by_table_at {rs : List Rule} {A U : List Str} {n : Int} {m : Sto} {R : WR} {Z : WZ} (ok : okRs rs) (T : IsTable rs A U) (n0 : 0 ≤ n) (n1 : n ≤ 10 ^ 15) (h : R (.str (formR rs n)) m) : c_by_table [.tup [.tup (A.map W.str), .tup (U.map W.str)], .int n] m R Z := by
  have hA : ∀ z ∈ A, nameOk z = true := fun z hz => word_name ok (T.aok z hz)
  have hU : ∀ z ∈ U, nameOk z = true := fun z hz => word_name ok (T.uok z hz)
  have hlen : U.length ≤ 1000 := by
    have := T.len
    have tt := isTurn_pos (longR_is ok.cond).1
    omega
  have ha := T.ahead
  have it : isTab (.tup [.tup (A.map W.str), .tup (U.map W.str)]) = true := by
    have r : ∀ V : List Str, (∀ z ∈ V, nameOk z = true) → isRow (.tup (V.map W.str)) = true := fun V hV => by
      show (V.map W.str).all isName = true
      rw [List.all_eq_true]
      intro w hw
      obtain ⟨z, hz, rfl⟩ := List.mem_map.mp hw
      exact hV z hz
    have hp := T.pos
    cases U with
    | nil => simp at hp
    | cons x s =>
      simp only [isTab, r A hA, r _ hU, Bool.and_self, Bool.true_and]
      rfl
  refine ⟨noRef_tab A U, by simp [tabFit, row_fit hA (by omega), row_fit hU (by omega)], rfl, (fun e => by rw [it] at e; cases e), fun _ e => ?_, fun A' U' n' e1 _ _ _ e2 _ _ z hz => ?_⟩
  · simp [isNum, n0] at e; omega
  · simp only [W.tup.injEq, List.cons.injEq, and_true] at e1
    have eA := map_str_inj.mp e1.1
    have eU := map_str_inj.mp e1.2
    cases e2
    subst eA eU
    rw [T.at_ n.toNat] at hz
    cases hz
    rw [show ((n.toNat : Nat) : Int) = n by omega]
    exact h
end FW

namespace FW
open PySem PySem.Spec L2
local macro_rules | `(tactic| walk_at "fw") => `(tactic| simp only [startW, endW, sRet, sRetN, sNext, sSeq, sDrop, sIf, sAsg, sRaise, sPar, sBreak, sCont, gSet, gTupN, gsetN, gSub, oSet, wC, wVar, getS0, getSs, wOp, wUn, wAnd, wOr, wNot, wTru, wTAnd, wTOr, wTNot, wTB, wChain, wIf, wCB, wCall, wNil, wCons, wTup, wLst, wLstM, wDct, wSl, wP, wNoP, wBM, wIt, wRange1, wRange2, wLc, wLcM, sFor, Tgt.wg, Tgt.slots, wipeW, wLam, wCallV, wSortSet, wListZip, wZip, wMaxD, wLenSet, capsOf, lamW, gTupG, gAll, wSetd, wDctM,
  List.map_cons, List.map_nil, List.length_cons, List.length_nil, List.replicate, List.append_nil, List.nil_append, List.cons_append, List.getElem?_cons_zero, List.getElem?_cons_succ, List.set_cons_zero, List.set_cons_succ, if_true, true_and, and_true])
end FW

namespace FW
open PySem PySem.Spec L2
local macro_rules | `(tactic| walk_at "fw") => `(tactic| simp only [startW, endW, sRet, sRetN, sNext, sSeq, sDrop, sIf, sAsg, sRaise, sPar, sBreak, sCont, gSet, gTupN, gsetN, gSub, oSet, wC, wVar, getS0, getSs, wOp, wUn, wAnd, wOr, wNot, wTru, wTAnd, wTOr, wTNot, wTB, wChain, wIf, wCB, wCall, wNil, wCons, wTup, wLst, wLstM, wDct, wSl, wP, wNoP, wBM, wIt, wRange1, wRange2, wLc, wLcM, sFor, Tgt.wg, Tgt.slots, wipeW, wLam, wCallV, wSortSet, wListZip, wZip, wMaxD, wLenSet, capsOf, lamW, gTupG, gAll, wSetd, wDctM,
  List.map_cons, List.map_nil, List.length_cons, List.length_nil, List.replicate, List.append_nil, List.nil_append, List.cons_append, List.getElem?_cons_zero, List.getElem?_cons_succ, List.set_cons_zero, List.set_cons_succ, if_true, true_and, and_true])
section
variable {f : Nat → Str}
def PerN (f : Nat → Str) (N p : Nat) : Prop := ∀ n, N ≤ n → f (n + p) = f n
theorem PerN.mul {N p : Nat} (h : PerN f N p) : ∀ k, PerN f N (p * k)
  | 0, n, _ => by simp
  | k + 1, n, hn => by
    rw [Nat.mul_succ, ← Nat.add_assoc, h _ (by omega), PerN.mul h k n hn]
theorem PerN.sub {N p q : Nat} (hp : PerN f N p) (hq : PerN f N q) (h : q ≤ p) : PerN f N (p - q) := fun n hn => by
  rw [← hq (n + (p - q)) (by omega), show n + (p - q) + q = n + p by omega, hp n hn]
theorem PerN.mod {N p q : Nat} (hp : PerN f N p) (hq : PerN f N q) : PerN f N (p % q) := by
  have h := Nat.mod_add_div p q
  have : p % q = p - q * (p / q) := by omega
  rw [this]
  exact hp.sub (hq.mul _) (by omega)
theorem PerN.gcd {N : Nat} : ∀ (p q : Nat), PerN f N p → PerN f N q → PerN f N (Nat.gcd p q) := by
  intro p q
  induction p, q using Nat.gcd.induction with
  | H0 q => intro _ hq; simpa using hq
  | H1 p q hp ih =>
    intro h1 h2
    rw [Nat.gcd_rec]
    exact ih (h2.mod h1) h1
/-- the parts of a table -/
structure Tab (f : Nat → Str) (A U : List Str) : Prop where
  at_ : ∀ n, tabAt A U n = some (f n)
  prim : Prim U
  pos : 1 ≤ U.length
  last : ∀ a, A.getLast? = some a → U.getLast? ≠ some a
variable {A U B V : List Str}
theorem Tab.a (T : Tab f A U) {i : Nat} (h : i < A.length) : A[i]? = some (f i) := by
  have := T.at_ i
  unfold tabAt at this
  rw [if_pos h] at this
  exact this
theorem Tab.u (T : Tab f A U) {i : Nat} (h : i < U.length) : U[i]? = some (f (A.length + i)) := by
  have := T.at_ (A.length + i)
  unfold tabAt at this
  rw [if_neg (by omega), show A.length + i - A.length = i by omega, Nat.mod_eq_of_lt h] at this
  exact this
theorem Tab.per (T : Tab f A U) : PerN f A.length U.length := fun n hn => by
  have h1 := T.at_ n
  have h2 := T.at_ (n + U.length)
  unfold tabAt at h1 h2
  rw [if_neg (by omega)] at h1 h2
  rw [show n + U.length - A.length = n - A.length + U.length by omega, Nat.add_mod_right, h1] at h2
  injection h2.symm
theorem PerN.up {N N' p : Nat} (h : PerN f N p) (hn : N ≤ N') : PerN f N' p := fun n k => h n (by omega)
theorem Tab.le (T : Tab f A U) {N q : Nat} (hq : PerN f N q) (h0 : 0 < q) (hd : q ∣ U.length) : q = U.length := by
  have hle := Nat.le_of_dvd T.pos hd
  rcases Nat.lt_or_ge q U.length with hlt | hge
  · exfalso
    refine T.prim q h0 hlt hd fun i hi => ?_
    rw [T.u hi, T.u (Nat.lt_of_lt_of_le (Nat.mod_lt _ h0) hle)]
    congr 1
    have pm := T.per.mul N
    have hN : N ≤ U.length * N := Nat.le_mul_of_pos_left N T.pos
    rw [← pm (A.length + i) (by omega), ← pm (A.length + i % q) (by omega)]
    have hi' := Nat.mod_add_div i q
    have := (hq.mul (i / q)) (A.length + i % q + U.length * N) (by omega)
    rw [← this]
    congr 1
    omega
  · omega
theorem Tab.len (T : Tab f A U) (S : Tab f B V) : U.length = V.length := by
  have g := PerN.gcd U.length V.length (T.per.up (Nat.le_max_left A.length B.length)) (S.per.up (Nat.le_max_right A.length B.length))
  have g0 : 0 < Nat.gcd U.length V.length := Nat.gcd_pos_of_pos_left _ T.pos
  rw [← T.le g g0 (Nat.gcd_dvd_left _ _)]
  exact S.le g g0 (Nat.gcd_dvd_right _ _)
theorem Tab.ahead (T : Tab f A U) (S : Tab f B V) : B.length ≤ A.length := by
  rcases Nat.lt_or_ge A.length B.length with h | h
  · exfalso
    have hl := T.len S
    have h1 : B.getLast? = some (f (B.length - 1)) := by
      rw [List.getLast?_eq_getElem?, S.a (by omega)]
    have vp := S.pos
    have h2 : V.getLast? = some (f (B.length + (V.length - 1))) := by
      rw [List.getLast?_eq_getElem?, S.u (by omega)]
    refine S.last _ h1 ?_
    rw [h2]
    congr 1
    have := T.per (B.length - 1) (by omega)
    rw [← this]
    congr 1
    omega
  · exact h
theorem Tab.uniq (T : Tab f A U) (S : Tab f B V) : A = B ∧ U = V := by
  have e1 : A.length = B.length := Nat.le_antisymm (S.ahead T) (T.ahead S)
  have e2 := T.len S
  constructor
  · apply List.ext_getElem?
    intro i
    by_cases h : i < A.length
    · rw [T.a h, S.a (by omega)]
    · rw [List.getElem?_eq_none (by omega), List.getElem?_eq_none (by omega)]
  · apply List.ext_getElem?
    intro i
    by_cases h : i < U.length
    · rw [T.u h, S.u (by omega), e1]
    · rw [List.getElem?_eq_none (by omega), List.getElem?_eq_none (by omega)]
/-- how often a word stands in the turning part -/
theorem cnt_list {p : Int → Bool} {z : Str} (hp : ∀ n : Nat, p (n : Int) = (f n == z)) (L : List Str) (b : Nat) (h : ∀ i, i < L.length → L[i]? = some (f (b + i))) : cntN p (b : Int) L.length = ((L.countP fun x => x == z : Nat) : Int) := by
  have go : ∀ n, n ≤ L.length → cntN p (b : Int) n = (((L.take n).countP fun x => x == z : Nat) : Int) := by
    intro n
    induction n with
    | zero => intro _; simp [cntN]
    | succ n ih =>
      intro hn
      rw [cntN, ih (by omega), List.take_add_one, h n (by omega), List.countP_append, show (b : Int) + (n : Int) = ((b + n : Nat) : Int) by omega, hp]
      simp only [Option.toList_some, List.countP_cons, List.countP_nil, Nat.zero_add, b2i]
      split <;> simp
  have := go L.length (Nat.le_refl _)
  rw [List.take_length] at this
  exact this
theorem cnt_shift {p : Int → Bool} {L : Nat} {lo : Int} (hp : ∀ n, lo ≤ n → p (n + L) = p n) : ∀ k : Nat, cntN p (lo + k) L = cntN p lo L
  | 0 => by simp
  | k + 1 => by
    have ih := cnt_shift hp k
    have h1 := cntN_add p (lo + k) 1 L
    have h2 := cntN_add p (lo + k) L 1
    rw [Nat.add_comm 1 L, h2] at h1
    have e : ∀ x : Int, cntN p x 1 = b2i (p x) := fun x => by simp [cntN]
    rw [e, e, hp (lo + k) (by omega), ih] at h1
    rw [show lo + ((k + 1 : Nat) : Int) = lo + (k : Int) + ((1 : Nat) : Int) by omega]
    omega
theorem cnt_many {p : Int → Bool} {L : Nat} {lo : Int} (hp : ∀ n, lo ≤ n → p (n + L) = p n) : ∀ k : Nat, cntN p lo (k * L) = k * cntN p lo L
  | 0 => by simp [cntN]
  | k + 1 => by
    rw [Nat.succ_mul, cntN_add, cnt_many hp k, cnt_shift hp (k * L)]
    have : ((k + 1 : Nat) : Int) * cntN p lo L = (k : Int) * cntN p lo L + cntN p lo L := by
      rw [show ((k + 1 : Nat) : Int) = (k : Int) + 1 by omega, Int.add_mul, Int.one_mul]
    omega
end
theorem IsTable.tab {rs : List Rule} {A U : List Str} (T : IsTable rs A U) (h : ∀ a, A.getLast? = some a → U.getLast? ≠ some a) : Tab (fun n => formR rs (n : Int)) A U := ⟨T.at_, T.prim, T.pos, h⟩
/-- one turn, and a thousand turns from a place behind the beginning -/
theorem turn_cnt {rs : List Rule} {A U : List Str} (T : IsTable rs A U) (h : ∀ a, A.getLast? = some a → U.getLast? ≠ some a) (z : Str) :
    cntI (isF rs z) (A.length : Int) ((A.length : Int) + (U.length : Int) - 1) = ((U.countP fun x => x == z : Nat) : Int) ∧
    cntI (isF rs z) ((A.length : Int) + 5) ((A.length : Int) + 5 + 1000 * (U.length : Int) - 1) = 1000 * ((U.countP fun x => x == z : Nat) : Int) := by
  have tb := T.tab h
  have hper : ∀ n, (A.length : Int) ≤ n → isF rs z (n + (U.length : Nat)) = isF rs z n := fun n hn => by
    have : formR rs ((n.toNat + U.length : Nat) : Int) = formR rs ((n.toNat : Nat) : Int) := tb.per n.toNat (by omega)
    rw [show ((n.toNat + U.length : Nat) : Int) = n + (U.length : Nat) by omega, show ((n.toNat : Nat) : Int) = n by omega] at this
    unfold isF
    rw [this]
  have one := cnt_list (f := fun n => formR rs (n : Int)) (p := isF rs z) (z := z) (fun n => rfl) U A.length (fun i hi => tb.u hi)
  constructor
  · unfold cntI
    rw [show ((A.length : Int) + (U.length : Int) - 1 + 1 - (A.length : Int)).toNat = U.length by omega]
    exact one
  · unfold cntI
    rw [show ((A.length : Int) + 5 + 1000 * (U.length : Int) - 1 + 1 - ((A.length : Int) + 5)).toNat = 1000 * U.length by omega]
    rw [cnt_many (fun n hn => hper n (by omega)) 1000]
    have := cnt_shift (p := isF rs z) (L := U.length) (lo := (A.length : Int)) hper 5
    rw [show (A.length : Int) + ((5 : Nat) : Int) = (A.length : Int) + 5 by omega] at this
    rw [this, one]
    rfl
end FW

namespace FW
open PySem PySem.Spec L2
def N_law_k51 : List Str := ["script", "dice", "rules", "other", "number", "at", "word", "one", "two", "begin", "long", "row"]
/-- law -/
def t_law_k51 (c_law_rounds c_how_many_have c_by_table c_form_of c_law_roll c_parted c_least_table c_law_rules : Con) : WS := (sSeq (sFor (wIt (wCall 2 c_law_rounds (wCons (wVar 0) (wCons (wC (.int 3)) wNil)))) (Tgt.nm 1).wg (sSeq (sAsg (wCall 3 c_law_rules (wCons (wVar 1) (wCons (wOp oAdd (wC (.int 1)) (wCall 2 c_law_roll (wCons (wVar 1) (wCons (wC (.int 3)) wNil)))) (wCons (wOp oIx (wLst (wCons (wC (.int 30)) (wCons (wC (.int 300)) wNil))) (wCall 2 c_law_roll (wCons (wVar 1) (wCons (wC (.int 2)) wNil)))) wNil)))) (gSet 2))
    (sSeq (sAsg (wIf (wTB (wOp (oEq false) (wCall 2 c_law_roll (wCons (wVar 1) (wCons (wC (.int 2)) wNil))) (wC (.int 0)))) (wRev (wVar 2)) (wCall 3 c_law_rules (wCons (wVar 1) (wCons (wC (.int 1)) (wCons (wC (.int 30)) wNil))))) (gSet 3))
    (sSeq (sPar [7, 8] (wCons (wCall 1 c_least_table (wCons (wVar 2) wNil)) (wCons (wCall 1 c_least_table (wCons (wVar 3) wNil)) wNil)))
    (sSeq (sAsg (wCall 2 c_parted (wCons (wVar 2) (wCons (wVar 3) wNil))) (gSet 4))
    (sSeq (sIf (wTB (wOp (oEq true) (wOp (oEq false) (wVar 7) (wVar 8)) (wOp (oIs false) (wVar 4) (wC .non)))) (sRet (wC (.bl false))) sNext)
    (sSeq (sIf (wTAnd (wTB (wOp (oIs true) (wVar 4) (wC .non))) (wTB (wOp (oEq false) (wCall 2 c_by_table (wCons (wVar 7) (wCons (wVar 4) wNil))) (wCall 2 c_by_table (wCons (wVar 8) (wCons (wVar 4) wNil)))))) (sRet (wC (.bl false))) sNext)
    (sSeq (sFor (wRange1 (wCons (wC (.int 6)) wNil)) (Tgt.nm 5).wg (sSeq (sAsg (wCall 2 c_law_roll (wCons (wVar 1) (wCons (wOp oIx (wLst (wCons (wC (.int 10)) (wCons (wC (.int 1000)) (wCons (wC (.int 100000)) (wCons (wOp oPow (wC (.int 10)) (wC (.int 7))) (wCons (wOp oPow (wC (.int 10)) (wC (.int 9))) (wCons (wOp oPow (wC (.int 10)) (wC (.int 11))) wNil))))))) (wVar 5)) wNil))) (gSet 4))
    (sIf (wTOr (wTB (wOp (oEq true) (wCall 2 c_by_table (wCons (wVar 7) (wCons (wVar 4) wNil))) (wCall 2 c_form_of (wCons (wVar 2) (wCons (wVar 4) wNil))))) (wTB (wOp (oEq true) (wCall 2 c_by_table (wCons (wVar 8) (wCons (wVar 4) wNil))) (wCall 2 c_form_of (wCons (wVar 3) (wCons (wVar 4) wNil)))))) (sRet (wC (.bl false))) sNext)))
    (sSeq (sPar [9, 10] (wCons (wCB fLen (wCons (wOp oIx (wVar 7) (wC (.int 0))) wNil)) (wCons (wCB fLen (wCons (wOp oIx (wVar 7) (wC (.int 1))) wNil)) wNil)))
    (sFor (wIt (wOp oAdd (wLc (wIt (wVar 2)) (.nm 11) wYes (wOp oIx (wVar 11) (wC (.int 0)))) (wLst (wCons (wC (.str "other")) wNil)))) (Tgt.nm 6).wg (sSeq (sIf (wTB (wOp (oEq true) (wCall 4 c_how_many_have (wCons (wVar 2) (wCons (wVar 6) (wCons (wVar 9) (wCons (wOp oSub (wOp oAdd (wVar 9) (wVar 10)) (wC (.int 1))) wNil))))) (wBMt mCountT (wOp oIx (wVar 7) (wC (.int 1))) (wCons (wVar 6) wNil)))) (sRet (wC (.bl false))) sNext)
    (sIf (wTB (wOp (oEq true) (wCall 4 c_how_many_have (wCons (wVar 2) (wCons (wVar 6) (wCons (wOp oAdd (wVar 9) (wC (.int 5))) (wCons (wOp oSub (wOp oAdd (wOp oAdd (wVar 9) (wC (.int 5))) (wOp oMul (wC (.int 1000)) (wVar 10))) (wC (.int 1))) wNil))))) (wOp oMul (wC (.int 1000)) (wBMt mCountT (wOp oIx (wVar 7) (wC (.int 1))) (wCons (wVar 6) wNil))))) (sRet (wC (.bl false))) sNext))))))))))))
    (sRet (wC (.bl true))))
end FW

namespace FW
open PySem PySem.Spec L2
local macro_rules | `(tactic| walk_at "fw") => `(tactic| simp only [startW, endW, sRet, sRetN, sNext, sSeq, sDrop, sIf, sAsg, sRaise, sPar, sBreak, sCont, gSet, gTupN, gsetN, gSub, oSet, wC, wVar, getS0, getSs, wOp, wUn, wAnd, wOr, wNot, wTru, wTAnd, wTOr, wTNot, wTB, wChain, wIf, wCB, wCall, wNil, wCons, wTup, wLst, wLstM, wDct, wSl, wP, wNoP, wBM, wIt, wRange1, wRange2, wLc, wLcM, sFor, Tgt.wg, Tgt.slots, wipeW, wLam, wCallV, wSortSet, wListZip, wZip, wMaxD, wLenSet, capsOf, lamW, gTupG, gAll, wSetd, wDctM,
  List.map_cons, List.map_nil, List.length_cons, List.length_nil, List.replicate, List.append_nil, List.nil_append, List.cons_append, List.getElem?_cons_zero, List.getElem?_cons_succ, List.set_cons_zero, List.set_cons_succ, if_true, true_and, and_true])
theorem q_par51 {is : List Nat} {t : WA} {u : WS} {T : EW} {d : List (Option W)} {m : Sto} (Post : List W → Sto → Prop) (h : ∀ K : List W → Sto → Prop, (∀ ws m', Post ws m' → K ws m') → t d m K T.ex) (k : ∀ ws m', Post ws m' → ws.length = is.length ∧ u T (gsetN is ws d) m') : sSeq (sPar is t) u T d m := h _ k
theorem ok_rev {rs : List Rule} (h : okRs rs) : okRs rs.reverse := by
  obtain ⟨h1, h2, h3⟩ := h
  exact ⟨by simpa using h1, fun r hr => h2 r (by simpa using hr), by rw [List.map_reverse]; unfold List.Nodup at *; rw [List.pairwise_reverse]; exact h3.imp fun e => Ne.symm e⟩
theorem nr_rev {rs : List Rule} (h : NearRs rs) : NearRs rs.reverse := ⟨ok_rev h.1, by simpa using h.2.1, fun r hr => h.2.2 r (by simpa using hr)⟩
theorem enc_rev (rs : List Rule) : W.tup (rs.map encRule).reverse = encRs rs.reverse := by unfold encRs; rw [List.map_reverse]
theorem str_inj : ∀ {A B : List Str}, A.map W.str = B.map W.str → A = B
  | [], [], _ => rfl
  | [], _ :: _, h => by cases h
  | _ :: _, [], h => by cases h
  | a :: A, b :: B, h => by
    rw [List.map_cons, List.map_cons] at h
    injection h with h1 h2
    injection h1 with h1
    rw [h1, str_inj h2]
theorem wgq {i : Nat} {v : W} {d : List (Option W)} {m : Sto} {P : List (Option W) → Sto → Prop} (h : P (d.set i (some v)) m) : (Tgt.nm i).wg v d m P := h
def tabW (A U : List Str) : W := .tup [.tup (A.map W.str), .tup (U.map W.str)]
theorem tab_at {rs : List Rule} {m : Sto} {R : WR} {Z : WZ} (ok : okRs rs) (h : ∀ A U o, IsTable rs A U → (∀ a, A.getLast? = some a → U.getLast? ≠ some a) → R (tabW A U) (m ++ [o])) : c_least_table [encRs rs] m R Z := by
  refine ⟨noRef_rs rs, fit_rs ok, (fun e => by rw [rules_enc ok] at e; cases e), fun rs' e' ok' A U o T hlast => ?_⟩
  cases encRs_inj e'
  exact h A U o T hlast
theorem pl_tab {A U : List Str} (ha : ∀ z ∈ A, PyData.strOk z = true) (hu : ∀ z ∈ U, PyData.strOk z = true) : pl 3 (tabW A U) = true := by
  show ([W.tup (A.map W.str), W.tup (U.map W.str)].all (pl 2)) = true
  have h1 : pl 2 (W.tup (A.map W.str)) = true := pl_strs ha 1
  have h2 : pl 2 (W.tup (U.map W.str)) = true := pl_strs hu 1
  simp [h1, h2]
theorem b_law_k51 : ∀ ws m R Z, ws.length = 1 → c_law ws m R Z → t_law_k51 c_law_rounds c_how_many_have c_by_table c_form_of c_law_roll c_parted c_least_table c_law_rules (endW R Z) (startW N_law_k51 ws) m := by
  intro ws m R Z hl h
  obtain ⟨ns, hn, hws, rfl, hR⟩ := h
  have hs : ∃ s, ws = [s] ∧ Script s := by
    rcases hws with rfl | rfl
    · exact ⟨_, rfl, ns, .inl rfl, by omega⟩
    · exact ⟨_, rfl, ns, .inr rfl, by omega⟩
  obtain ⟨s, rfl, hs⟩ := hs
  have h15 := p15
  have h62 := p62
  have h64 := p64'
  unfold t_law_k51 N_law_k51
  show sSeq _ _ _ [some s, none, none, none, none, none, none, none, none, none, none, none] _
  refine q_for (fun l st m' => (∀ w ∈ l, ∃ p, w = .ref p ∧ DiceAt m' p) ∧ ∀ x, st x) (fun Q hQ => ?_) ?_
  · walk_at "fw"
    refine ⟨hs, by decide, by decide, fun l m1 _ hl _ _ => ?_⟩
    exact hQ _ _ _ ⟨hl, fun _ => trivial⟩
  rintro l st m1 ⟨hl, hst⟩
  refine for_inv (I := fun ws d m' => (∃ a b c e f g h i j k l, d = [some s, a, b, c, e, f, g, h, i, j, k, l]) ∧ ∀ w ∈ ws, ∃ p, w = .ref p ∧ DiceAt m' p) ?_ ?_ _ _ m1 ⟨⟨_, _, _, _, _, _, _, _, _, _, _, rfl⟩, hl⟩
  · rintro w ws d m' ⟨⟨a, b, c, e, f, g, h, i, j, k, l, rfl⟩, hi⟩ P hP
    obtain ⟨p, rfl, hd⟩ := hi w (by simp)
    refine ⟨hst _, wgq ?_⟩
    show sSeq _ _ _ [some s, some (.ref p), b, c, e, f, g, h, i, j, k, l] m'
    refine q_asgP (fun v m2 => ∃ rs, v = encRs rs ∧ DrawnRs 3 rs ∧ Ext p m' m2) (fun K hK => drawn_rules hd rfl fun rs m2 dr x => hK _ _ ⟨rs, rfl, dr, x⟩) ?_
    rintro _ m2 ⟨rs, rfl, dr, x2⟩
    have ok := dr.1
    have hok := ok.cond
    have r4 := dr.2.1
    have nr : NearRs rs := ⟨ok, r4, fun q hq => Nat.le_trans (dr.2.2 q hq).2.1 (by decide)⟩
    show sSeq _ _ _ [some s, some (.ref p), some (encRs rs), c, e, f, g, h, i, j, k, l] m2
    refine q_asgP (fun v m3 => ∃ os, v = encRs os ∧ NearRs os ∧ Ext p m' m3) (fun K hK => ?_) ?_
    · have e0 : encRs rs = .tup (rs.map encRule) := rfl
      rw [e0]
      walk_at "fw"
      refine ⟨by decide, by decide, x2.dice, fun r m3 r0 r2 x3 => ?_⟩
      by_cases hr : r = 0
      · simp only [oEq_int, hr, decide_true, Bool.xor_false, if_true]
        exact hK _ _ ⟨rs.reverse, enc_rev rs, nr_rev nr, x2.trans x3⟩
      · simp only [oEq_int, hr, decide_false, Bool.xor_false, Bool.false_eq_true, if_false]
        refine ⟨by decide, by decide, by decide, by decide, x3.dice, fun os m4 x4 d4 => hK _ _ ⟨os, rfl, ⟨d4.1, d4.2.1, fun q hq => Nat.le_trans (d4.2.2 q hq).2.1 (by decide)⟩, x2.trans (x3.trans x4)⟩⟩
    rintro _ m3 ⟨os, rfl, no, x3⟩
    have oko := no.1
    have hoko := oko.cond
    have o4 := no.2.1
    have c1 := near_cuts nr
    have c2 := near_cuts no
    have hokm : ∀ c ∈ (rs ++ os).map (·.2), okC 6 c := fun c hc => by
      obtain ⟨r, hr, rfl⟩ := List.mem_map.mp hc
      rcases List.mem_append.mp hr with hr | hr
      · exact hok r hr
      · exact hoko r hr
    have fl := farL_le hokm
    show sSeq (sPar _ _) _ _ [some s, some (.ref p), some (encRs rs), some (encRs os), e, f, g, h, i, j, k, l] m3
    refine q_par51 (fun ws m5 => ∃ A U B V, ws = [tabW A U, tabW B V] ∧ IsTable rs A U ∧ (∀ a, A.getLast? = some a → U.getLast? ≠ some a) ∧ IsTable os B V ∧ (∀ a, B.getLast? = some a → V.getLast? ≠ some a) ∧ Ext p m' m5) (fun K hK => ?_) ?_
    · refine e_cons ?_
      walk_at "fw"
      refine tab_at ok fun A U o T hT => tab_at oko fun B V o2 S hS => hK _ _ ⟨A, U, B, V, rfl, T, hT, S, hS, ?_⟩
      exact x3.trans ((Ext.push x3.dice _).trans (Ext.push (Ext.push x3.dice _).dice _))
    rintro _ m5 ⟨A, U, B, V, rfl, T, hT, S, hS, x5⟩
    refine ⟨rfl, ?_⟩
    show sSeq _ _ _ [some s, some (.ref p), some (encRs rs), some (encRs os), e, f, g, some (tabW A U), some (tabW B V), j, k, l] m5
    refine q_asgP (fun v m6 => m5 = m6 ∧ ∃ r, v = optI r ∧ LeastIs (partR rs os) 0 r) (fun K hK => ?_) ?_
    · walk_at "fw"
      exact parted_at ok oko (by omega) fun r hr => hK _ _ ⟨rfl, r, rfl, hr⟩
    rintro _ _ ⟨rfl, r, rfl, hr⟩
    show sSeq _ _ _ [some s, some (.ref p), some (encRs rs), some (encRs os), some (optI r), f, g, some (tabW A U), some (tabW B V), j, k, l] m5
    have aok : ∀ z ∈ A, PyData.strOk z = true := fun z hz => word_strOk ok (T.aok z hz)
    have uok : ∀ z ∈ U, PyData.strOk z = true := fun z hz => word_strOk ok (T.uok z hz)
    have bok : ∀ z ∈ B, PyData.strOk z = true := fun z hz => word_strOk oko (S.aok z hz)
    have vok : ∀ z ∈ V, PyData.strOk z = true := fun z hz => word_strOk oko (S.uok z hz)
    have same : tabW A U = tabW B V ↔ r = none := by
      constructor
      · intro e
        unfold tabW at e
        injection e with e
        injection e with e1 e2
        injection e1 with e1
        injection e2 with e2 _
        injection e2 with e2
        have e1 := str_inj e1
        have e2 := str_inj e2
        subst e1 e2
        cases r with
        | none => rfl
        | some x =>
          exfalso
          obtain ⟨x0, hx, _⟩ := hr
          have t1 := T.at_ x.toNat
          have t2 := S.at_ x.toNat
          rw [t1, show ((x.toNat : Nat) : Int) = x by omega] at t2
          injection t2 with t2
          unfold partR at hx
          rw [t2] at hx
          simp at hx
      · rintro rfl
        have hf : (fun n : Nat => formR rs (n : Int)) = fun n : Nat => formR os (n : Int) := by
          funext n
          have := hr (n : Int) (by omega)
          unfold partR at this
          simpa using this
        have t1 := T.tab hT
        have t2 := S.tab hS
        rw [hf] at t1
        obtain ⟨e1, e2⟩ := t1.uniq t2
        rw [e1, e2]
    refine q_skip m5 (fun K hK => ?_) ?_
    · walk_at "fw"
      refine eq_pl (k := 3) (j := 3) (plM_of (pl_tab aok uok)) (plM_of (pl_tab bok vok)) (by decide) (by decide) fun bb hb => ?_
      have : bb = decide (r = none) := by
        rw [Bool.eq_iff_iff, hb, same, decide_eq_true_eq]
      subst this
      cases r with
      | none => simpa [optI, oIs, isNonW, oEq, scalW] using hK
      | some x => simpa [optI, oIs, isNonW, oEq, scalW] using hK
    have bt : ∀ (n : Int) (mm : Sto) (K : WR) (Z : WZ), 0 ≤ n → n ≤ 10 ^ 15 → K (.str (formR rs n)) mm → c_by_table [tabW A U, .int n] mm K Z := fun n mm K Z n0 n1 hK => by_table_at ok T n0 n1 hK
    have bt2 : ∀ (n : Int) (mm : Sto) (K : WR) (Z : WZ), 0 ≤ n → n ≤ 10 ^ 15 → K (.str (formR os n)) mm → c_by_table [tabW B V, .int n] mm K Z := fun n mm K Z n0 n1 hK => by_table_at oko S n0 n1 hK
    refine q_skip m5 (fun K hK => ?_) ?_
    · cases r with
      | none =>
        walk_at "fw"
        simpa [optI, oIs, isNonW] using hK
      | some x =>
        have hx := part_far hok hoko hr
        obtain ⟨x0, hxp, _⟩ := hr
        walk_at "fw"
        simp only [optI, oIs, isNonW]
        simp
        refine bt x _ _ _ x0 (by omega) ?_
        refine bt2 x _ _ _ x0 (by omega) ?_
        unfold partR at hxp
        have : ¬ formR rs x = formR os x := by simpa using hxp
        simpa [oEq, scalW, this] using hK
    refine q_for (fun l st m8 => l = rangeW 0 6 ∧ (∀ x, st x) ∧ m5 = m8) (fun Q hQ => ?_) ?_
    · walk_at "fw"
      exact ⟨by decide, by decide, hQ _ _ _ ⟨rfl, fun _ => trivial, rfl⟩⟩
    rintro _ st2 _ ⟨rfl, hst2, rfl⟩
    refine for_range (I := fun t dd m8 => Ext p m' m8 ∧ ∃ e f, dd = [some s, some (.ref p), some (encRs rs), some (encRs os), e, f, g, some (tabW A U), some (tabW B V), j, k, l]) ?_ ?_ _ m5 ⟨x5, _, _, rfl⟩
    · rintro t ht dd m8 ⟨x8, e, f, rfl⟩ P2 hP2
      refine ⟨hst2 _, wgq ?_⟩
      show sSeq _ _ _ [some s, some (.ref p), some (encRs rs), some (encRs os), e, some (.int (0 + (t : Int))), g, some (tabW A U), some (tabW B V), j, k, l] m8
      have pick : ∃ far : Int, atI [W.int 10, W.int 1000, W.int 100000, W.int (10 ^ (7 : Int).toNat), W.int (10 ^ (9 : Int).toNat), W.int (10 ^ (11 : Int).toNat)] (0 + (t : Int)) = some (.int far) ∧ 0 < far ∧ far ≤ 10 ^ 11 := by
        have : t = 0 ∨ t = 1 ∨ t = 2 ∨ t = 3 ∨ t = 4 ∨ t = 5 := by omega
        rcases this with rfl | rfl | rfl | rfl | rfl | rfl <;> exact ⟨_, rfl, by decide, by decide⟩
      obtain ⟨far, ef, f0, f1⟩ := pick
      have f11 : (10 : Int) ^ 11 = 100000000000 := by decide
      refine q_asgP (fun v m9 => ∃ n, v = .int n ∧ 0 ≤ n ∧ n ≤ 10 ^ 15 ∧ Ext p m' m9) (fun K hK => ?_) ?_
      · walk_at "fw"
        simp only [oPow]
        refine ⟨⟨by decide, by decide, by decide⟩, ⟨by decide, by decide, by decide⟩, ⟨by decide, by decide, by decide⟩, by decide, ?_⟩
        simp only [oIx, seqOf, lstOf, ef]
        exact ⟨f0, by omega, x8.dice, fun n m9 n0 n1 x9 => hK _ _ ⟨n, rfl, n0, by omega, x8.trans x9⟩⟩
      rintro _ m9 ⟨n, rfl, n0, n1, x9⟩
      refine r_skip m9 (fun K hK => ?_) (hP2 _ _ ⟨x9, _, _, rfl⟩)
      walk_at "fw"
      refine bt n _ _ _ n0 n1 (form_of_at ok n0 n1 ?_)
      simp only [oEq_str, decide_true, Bool.xor_true, Bool.not_true, Bool.false_eq_true, if_false]
      refine bt2 n _ _ _ n0 n1 (form_of_at oko n0 n1 ?_)
      simp only [oEq_str, decide_true, Bool.xor_true, Bool.not_true]
      exact hK
    rintro dd m8 ⟨x8, e, f, rfl⟩
    refine ⟨hst2 _, ?_⟩
    dsimp only []
    have ul : U.length ≤ 1000 := by have := T.len; have tt := isTurn_pos (longR_is hok).1; omega
    have al := T.ahead
    have up := T.pos
    have lT : ∀ m0 (l : List Str), lenW m0 (.tup (l.map W.str)) = some l.length := fun m0 l => by simp [lenW, seqOf]
    refine q_par51 (fun ws m9 => ws = [.int (A.length : Int), .int (U.length : Int)] ∧ m8 = m9) (fun K hK => ?_) ?_
    · unfold tabW
      walk_at "fw"
      simp only [oIx, seqOf, atI_0, atI_1, fLen, lT]
      exact hK _ _ ⟨rfl, rfl⟩
    rintro _ _ ⟨rfl, rfl⟩
    refine ⟨rfl, ?_⟩
    show sFor _ _ _ _ [some s, some (.ref p), some (encRs rs), some (encRs os), e, f, g, some (tabW A U), some (tabW B V), some (.int (A.length : Int)), some (.int (U.length : Int)), l] m8
    refine r_for (fun l' st m9 => l' = (wordsR rs).map W.str ∧ (∀ x, st x) ∧ m8 = m9) (fun Q hQ => ?_) ?_
    · unfold wIt
      refine e_op1 (wds_at (i := 2) (j := 11) (by omega) rfl (fun _ => rfl) ?_)
      walk_at "fw"
      refine ⟨by decide, ?_⟩
      simp only [oAdd, lstOfT]
      refine ⟨size_ok (by simp; omega), ?_⟩
      have : (rs.map (fun r => W.str r.1) ++ [.str "other"]) = (wordsR rs).map W.str := by simp [wordsR, wOther, Function.comp_def]
      rw [this]
      exact hQ _ _ _ ⟨rfl, fun _ => trivial, rfl⟩
    rintro _ st3 _ ⟨rfl, hst3, rfl⟩
    have wname : ∀ wd ∈ wordsR rs, nameOk wd = true := fun wd hw => word_name ok hw
    refine for_inv (I := fun xs dd m9 => m8 = m9 ∧ (∃ g, dd = [some s, some (.ref p), some (encRs rs), some (encRs os), e, f, g, some (tabW A U), some (tabW B V), some (.int (A.length : Int)), some (.int (U.length : Int)), l]) ∧ ∀ x ∈ xs, ∃ z, x = .str z ∧ nameOk z = true) ?_ ?_ _ _ m8 ⟨rfl, ⟨_, rfl⟩, fun x hx => by
      obtain ⟨z, hz, rfl⟩ := List.mem_map.mp hx
      exact ⟨z, rfl, wname z hz⟩⟩
    · rintro v xs dd m9 ⟨rfl, ⟨g, rfl⟩, hx⟩ P2 hP2
      obtain ⟨z, rfl, hz⟩ := hx v (by simp)
      refine ⟨hst3 _, wgq ?_⟩
      obtain ⟨k1, k2⟩ := turn_cnt T hT z
      have flat : (U.map W.str).all isFlat = true := by
        rw [List.all_eq_true]
        intro w hw
        obtain ⟨q, _, rfl⟩ := List.mem_map.mp hw
        rfl
      have cnt : ((U.map W.str).countP fun w => eqF w (.str z)) = U.countP fun x => x == z := by
        rw [List.countP_map]
        apply List.countP_congr
        intro x _
        simp [eqF]
      show sSeq _ _ _ [some s, some (.ref p), some (encRs rs), some (encRs os), e, f, some (.str z), some (tabW A U), some (tabW B V), some (.int (A.length : Int)), some (.int (U.length : Int)), l] m8
      refine q_skip m8 (fun K hK => ?_) ?_
      · unfold tabW
        walk_at "fw"
        simp only [oAdd, oSub]
        refine have_at ok hz (by omega) (by omega) (by omega) (by omega) (by omega) ?_
        simp only [oIx, seqOf, atI_1, wBMt]
        refine ⟨⟨_, rfl⟩, ?_⟩
        walk_at "fw"
        simp only [mCountT]
        refine ⟨rfl, flat, ?_⟩
        rw [cnt, k1]
        have e0 : ∀ (x : Int) (m0 : Sto) (Q : WR), Q (.bl false) m0 → oEq true (.int x) (.int x) m0 Q := fun x m0 Q hq => by simp only [oEq, scalW]; simpa using hq
        exact e0 _ _ _ hK
      refine r_skip m8 (fun K hK => ?_) (hP2 _ _ ⟨rfl, ⟨_, rfl⟩, fun x h => hx x (List.mem_cons_of_mem _ h)⟩)
      unfold tabW
      walk_at "fw"
      simp only [oAdd, oSub, oMul]
      refine ⟨.inl (.inl ⟨by decide, by decide⟩), ?_⟩
      refine have_at ok hz (by omega) (by omega) (by omega) (by omega) (by omega) ?_
      simp only [oIx, seqOf, atI_1, wBMt]
      refine ⟨⟨_, rfl⟩, ?_⟩
      walk_at "fw"
      simp only [mCountT]
      refine ⟨rfl, flat, ?_⟩
      rw [cnt, k2]
      have e0 : ∀ (x : Int) (m0 : Sto) (Q : WR), Q (.bl false) m0 → oEq true (.int x) (.int x) m0 Q := fun x m0 Q hq => by simp only [oEq, scalW]; simpa using hq
      exact ⟨.inl (.inl ⟨by decide, by decide⟩), e0 _ _ _ hK⟩
    · rintro dd m9 ⟨rfl, ⟨g, rfl⟩, _⟩
      refine ⟨hst3 _, hP _ _ ⟨⟨_, _, _, _, _, _, _, _, _, _, _, rfl⟩, fun w hw => ?_⟩⟩
      obtain ⟨q, rfl, hq⟩ := hi w (List.mem_cons_of_mem _ hw)
      exact ⟨q, rfl, x8.keep hq⟩
  · rintro d m' ⟨⟨a, b, c, e, f, g, h, i, j, k, l, rfl⟩, _⟩
    exact ⟨hst _, hR m'⟩
end FW

namespace FW
open PySem PySem.Spec L2 PyProof.Rows
/-- an exception is handled, its object stays as it is, its context is None -/
def HotB (X : Cx) (a : Addr) : Prop := X.A.handled = some (.ref a) ∧ ∃ (o : Obj) (vs : Array Value), (∀ pins σ H s, Inv X pins σ H s → s.heap.get? a = some o) ∧ o.data = .fields vs ∧ vs[2]? = some .none
section
variable {prog : Program} {w : World} {A : Around} {E : Value → Shared → Prop} {s : Shared}
end
end FW

namespace FW
open PySem PySem.Spec L2 PyProof.Rows
def b01 (b : Bool) : Int := if b then 1 else 0
section
variable {X : Cx} {x : Addr} {pos : Pos}
theorem ints_of : ∀ {bs : List Bool} {ys : List Value}, Paired (fun v y => ∃ b t, v = Value.bool b ∧ y = Value.int (b01 b) t) (bs.map Value.bool) ys → Vals (bs.map fun b => V.int (b01 b)) ys
  | [], _, h => by cases h; exact .nil
  | b :: bs, _, h => by
    cases h with
    | cons a t =>
      obtain ⟨b', tk, e1, rfl⟩ := a
      cases e1
      exact .cons ⟨tk, rfl⟩ (ints_of t)
end
end FW

namespace FW
open PySem PySem.Spec L2 PyProof.Rows
/-- the handled exception lies in the base -/
def ExB (base : Heap) (x D : Addr) (d : Option Addr) : Prop := ∃ (oe : Obj) (vs : Array Value), base.get? x = some oe ∧ oe.cls = .ref D ∧ oe.dict = d ∧ oe.data = .fields vs ∧ vs[2]? = some .none
section
variable {X : Cx} {x D : Addr} {d : Option Addr} {E : XK}
end
end FW

namespace FW
open PySem PySem.Spec L2 PyProof.Rows
structure WordOk (X : Cx) (x D : Addr) (d : Option Addr) (cls : Str) : Prop where
  hot : ∃ y, HotB X y
  ob : ExB X.base x D d
  ec : ExcC X.K D
  kit : ∀ c ∈ wordCls, ∃ a, X.mg c = some (.ref a) ∧ PySem.W.kitOne X.K (.ref D) (.ref a) = some (decide (c = cls))
  kv : PySem.W.kitOne X.K (.ref D) (.type "ValueError") = some true
  hcls : cls ∈ wordCls
  hN : X.N = (["e", "flags", "words", "flag"] : List Str)
  gl : ∀ c ∈ wordCls ++ (["isinstance", "sum", "ValueError"] : List Str), X.env.scope.names.lookup c = some .globalImplicit
  lo : ∀ c ∈ (["e", "flags", "words"] : List Str), X.env.scope.names.lookup c = some .local
  no : ∀ c ∈ (["isinstance", "sum", "ValueError", "int"] : List Str), X.mg c = none
  hu : X.A.units + 65 < cLine
section
variable {X : Cx} {x D : Addr} {d : Option Addr} {cls : Str} {E : XK} {pos : Pos}
end
end FW

namespace FW
open PySem PySem.Spec L2 PyProof.Rows
section
variable {X : Cx} {x D : Addr} {d : Option Addr} {cls : Str} {E : XK} {pos : Pos}
theorem WordOk.nd (W : WordOk X x D d cls) : X.N.Nodup := by rw [W.hN]; decide +kernel
theorem WordOk.set (W : WordOk X x D d cls) {i : Nat} {y : Str} (h : (["e", "flags", "words", "flag"] : List Str)[i]? = some y) (hy : y ∈ (["e", "flags", "words"] : List Str)) {e : Expr} {te : WE} {p : Pos} (he : PE X e (tM (gOf X) E te)) (hc : notComp e = true) : PS X (.Assign [.Name y p] e pos) (tMS (gOf X) E (sAsg te (gSet i))) :=
  s_set W.nd (by rw [W.hN]; exact h) (.inl (W.lo y hy)) he (sw_no hc) (.inr (W.lo y hy))
end
end FW

namespace FW
open PySem PySem.Spec L2
local macro_rules | `(tactic| walk_at "fw") => `(tactic| simp only [startW, endW, sRet, sRetN, sNext, sSeq, sDrop, sIf, sAsg, sRaise, sPar, sBreak, sCont, gSet, gTupN, gsetN, gSub, oSet, wC, wVar, getS0, getSs, wOp, wUn, wAnd, wOr, wNot, wTru, wTAnd, wTOr, wTNot, wTB, wChain, wIf, wCB, wCall, wNil, wCons, wTup, wLst, wLstM, wDct, wSl, wP, wNoP, wBM, wIt, wRange1, wRange2, wLc, wLcM, sFor, Tgt.wg, Tgt.slots, wipeW, wLam, wCallV, wSortSet, wListZip, wZip, wMaxD, wLenSet, capsOf, lamW, gTupG, gAll, wSetd, wDctM,
  List.map_cons, List.map_nil, List.length_cons, List.length_nil, List.replicate, List.append_nil, List.nil_append, List.cons_append, List.getElem?_cons_zero, List.getElem?_cons_succ, List.set_cons_zero, List.set_cons_succ, if_true, true_and, and_true])
end FW

namespace FW
open PySem PySem.Spec L2 PyProof.Rows
/-- what the classes of the refusals say -/
structure ExF (K : PySem.W.Frag) (mg : Str → Option Value) : Prop where
  one : ∀ cls ∈ wordCls, ∀ D, mg cls = some (.ref D) → ExcC K D ∧ (∀ c ∈ wordCls, ∃ a, mg c = some (.ref a) ∧ PySem.W.kitOne K (.ref D) (.ref a) = some (decide (c = cls))) ∧ PySem.W.kitOne K (.ref D) (.type "ValueError") = some true ∧
    ∃ F, mg "FormError" = some (.ref F) ∧ PySem.W.exmOne K (.ref D) (.ref F) = some true
section
variable {P : Program} {w : World} {K : PySem.W.Frag} {mg : Str → Option Value} {base : Heap}
end
section
variable {X : Cx} {a : Addr} {oe : Obj} {pn : List (Addr × Obj)} {cls : Value} {d : Option Addr}
end
end FW

namespace FW
open PySem PySem.Spec L2 PyProof.Rows
section
variable {P : Program} {w : World} {K : PySem.W.Frag} {mg : Str → Option Value}
end
end FW

namespace FW
open PySem PySem.Spec L2
def top (i : Nat) : Stmt := PySem.Challenge.pw_formwords_k51_whole_tables_and_rules.main.body.getD i (.Pass ⟨0, 0, 0, 0⟩)
def meth (i j : Nat) : Stmt := match top i with
  | .ClassDef _ _ _ body _ _ _ _ _ _ _ => body.getD j (.Pass ⟨0, 0, 0, 0⟩)
  | _ => .Pass ⟨0, 0, 0, 0⟩
def cnsG : List (Str × W) := [("GREATEST", .int (10 ^ 15)), ("LOOKS", dLOOKS), ("TURNS", dTURNS), ("MOST_DEEP", .int 6), ("MOST_PARTS", .int 60), ("LETTERS", .str "abcdefghijklmnopqrstuvwxyz"), ("OTHER", .str "other"), ("MOST_RULES", .int 6)]
def blG : List Str := ["isinstance", "len", "int", "tuple", "str", "bool", "list", "dict", "range", "max", "min", "any", "all", "sum", "set", "sorted", "zip", "divmod", "enumerate"]
def xsG : List Str := ["BadNumber", "BadRules", "BadName"]
def fns_is_number : List (Str × Nat × Con) := []
def mu_is_number : List (Nat × Nat) := []
theorem sc_is_number : FnScope N_is_number ["thing", "low", "high"] (defScope (top 11)) := ⟨rfl, rfl, rfl, by decide +kernel, rfl, by decide +kernel, by decide +kernel⟩
theorem tr_is_number : trSs 60 (mkCtx N_is_number (top 11) (fns_is_number) cnsG blG xsG mu_is_number) (defBody (top 11)) = some (t_is_number) := by kernel_rfl
def fns_need_number (c_is_number : Con) : List (Str × Nat × Con) := [("is_number", 3, c_is_number)]
def mu_need_number : List (Nat × Nat) := []
theorem sc_need_number : FnScope N_need_number ["thing"] (defScope (top 12)) := ⟨rfl, rfl, rfl, by decide +kernel, rfl, by decide +kernel, by decide +kernel⟩
theorem tr_need_number (c_is_number : Con) : trSs 60 (mkCtx N_need_number (top 12) (fns_need_number c_is_number) cnsG blG xsG mu_need_number) (defBody (top 12)) = some (t_need_number c_is_number) := by kernel_rfl
def fns_are_ranges (c_is_number : Con) : List (Str × Nat × Con) := [("is_number", 3, c_is_number)]
def mu_are_ranges : List (Nat × Nat) := []
theorem sc_are_ranges : FnScope N_are_ranges ["thing", "most"] (defScope (top 13)) := ⟨rfl, rfl, rfl, by decide +kernel, rfl, by decide +kernel, by decide +kernel⟩
theorem tr_are_ranges (c_is_number : Con) : trSs 60 (mkCtx N_are_ranges (top 13) (fns_are_ranges c_is_number) cnsG blG xsG mu_are_ranges) (defBody (top 13)) = some (t_are_ranges c_is_number) := by kernel_rfl
def fns_parts_of (c_parts_of c_are_ranges : Con) : List (Str × Nat × Con) := [("parts_of", 2, c_parts_of), ("are_ranges", 2, c_are_ranges)]
def mu_parts_of : List (Nat × Nat) := []
theorem sc_parts_of : FnScope N_parts_of ["thing", "deep"] (defScope (top 14)) := ⟨rfl, rfl, rfl, by decide +kernel, rfl, by decide +kernel, by decide +kernel⟩
theorem tr_parts_of (c_parts_of c_are_ranges : Con) : trSs 60 (mkCtx N_parts_of (top 14) (fns_parts_of c_parts_of c_are_ranges) cnsG blG xsG mu_parts_of) (defBody (top 14)) = some (t_parts_of c_parts_of c_are_ranges) := by kernel_rfl
def fns_is_condition (c_parts_of : Con) : List (Str × Nat × Con) := [("parts_of", 2, c_parts_of)]
def mu_is_condition : List (Nat × Nat) := []
theorem sc_is_condition : FnScope N_is_condition ["thing"] (defScope (top 15)) := ⟨rfl, rfl, rfl, by decide +kernel, rfl, by decide +kernel, by decide +kernel⟩
theorem tr_is_condition (c_parts_of : Con) : trSs 60 (mkCtx N_is_condition (top 15) (fns_is_condition c_parts_of) cnsG blG xsG mu_is_condition) (defBody (top 15)) = some (t_is_condition c_parts_of) := by kernel_rfl
def fns_last_of : List (Str × Nat × Con) := []
def mu_last_of : List (Nat × Nat) := []
theorem sc_last_of : FnScope N_last_of ["number", "turn"] (defScope (top 16)) := ⟨rfl, rfl, rfl, by decide +kernel, rfl, by decide +kernel, by decide +kernel⟩
theorem tr_last_of : trSs 60 (mkCtx N_last_of (top 16) (fns_last_of) cnsG blG xsG mu_last_of) (defBody (top 16)) = some (t_last_of) := by kernel_rfl
def fns_fits (c_fits c_last_of : Con) : List (Str × Nat × Con) := [("fits", 2, c_fits), ("last_of", 2, c_last_of)]
def mu_fits : List (Nat × Nat) := []
theorem sc_fits : FnScope N_fits ["condition", "number"] (defScope (top 17)) := ⟨rfl, rfl, rfl, by decide +kernel, rfl, by decide +kernel, by decide +kernel⟩
theorem tr_fits (c_fits c_last_of : Con) : trSs 60 (mkCtx N_fits (top 17) (fns_fits c_fits c_last_of) cnsG blG xsG mu_fits) (defBody (top 17)) = some (t_fits c_fits c_last_of) := by kernel_rfl
def fns_edges (c_edges : Con) : List (Str × Nat × Con) := [("edges", 1, c_edges)]
def mu_edges : List (Nat × Nat) := []
theorem sc_edges : FnScope N_edges ["condition"] (defScope (top 18)) := ⟨rfl, rfl, rfl, by decide +kernel, rfl, by decide +kernel, by decide +kernel⟩
theorem tr_edges (c_edges : Con) : trSs 60 (mkCtx N_edges (top 18) (fns_edges c_edges) cnsG blG xsG mu_edges) (defBody (top 18)) = some (t_edges c_edges) := by kernel_rfl
def fns_turn_of (c_turn_of : Con) : List (Str × Nat × Con) := [("turn_of", 1, c_turn_of)]
def mu_turn_of : List (Nat × Nat) := []
theorem sc_turn_of : FnScope N_turn_of ["condition"] (defScope (top 19)) := ⟨rfl, rfl, rfl, by decide +kernel, rfl, by decide +kernel, by decide +kernel⟩
theorem tr_turn_of (c_turn_of : Con) : trSs 60 (mkCtx N_turn_of (top 19) (fns_turn_of c_turn_of) cnsG blG xsG mu_turn_of) (defBody (top 19)) = some (t_turn_of c_turn_of) := by kernel_rfl
def fns_spots : List (Str × Nat × Con) := []
def mu_spots : List (Nat × Nat) := []
theorem sc_spots : FnScope N_spots ["cuts", "turn", "since"] (defScope (top 21)) := ⟨rfl, rfl, rfl, by decide +kernel, rfl, by decide +kernel, by decide +kernel⟩
theorem tr_spots : trSs 60 (mkCtx N_spots (top 21) (fns_spots) cnsG blG xsG mu_spots) (defBody (top 21)) = some (t_spots) := by kernel_rfl
def fns_least_of (F : W) (c_test c_spots : Con) : List (Str × Nat × Con) := [("spots", 3, c_spots)]
def mu_least_of : List (Nat × Nat) := []
def lc_least_of (F : W) (c_test c_spots : Con) : Lc := { lams := [(0, 1, F, c_test)] }
theorem sc_least_of : FnScope N_least_of ["test", "cuts", "turn", "since"] (defScope (top 22)) := ⟨rfl, rfl, rfl, by decide +kernel, rfl, by decide +kernel, by decide +kernel⟩
theorem tr_least_of (F : W) (c_test c_spots : Con) : trSs 60 (mkCtx N_least_of (top 22) (fns_least_of F c_test c_spots) cnsG blG xsG mu_least_of (lc_least_of F c_test c_spots)) (defBody (top 22)) = some (t_least_of F c_test c_spots) := by kernel_rfl
def fns_many_of (F : W) (c_test : Con) : List (Str × Nat × Con) := []
def mu_many_of : List (Nat × Nat) := []
def lc_many_of (F : W) (c_test : Con) : Lc := { lams := [(0, 1, F, c_test)] }
theorem sc_many_of : FnScope N_many_of ["test", "cuts", "turn", "low", "high"] (defScope (top 23)) := ⟨rfl, rfl, rfl, by decide +kernel, rfl, by decide +kernel, by decide +kernel⟩
theorem tr_many_of (F : W) (c_test : Con) : trSs 60 (mkCtx N_many_of (top 23) (fns_many_of F c_test) cnsG blG xsG mu_many_of (lc_many_of F c_test)) (defBody (top 23)) = some (t_many_of F c_test) := by kernel_rfl
def fns_is_name : List (Str × Nat × Con) := []
def mu_is_name : List (Nat × Nat) := []
theorem sc_is_name : FnScope N_is_name ["thing"] (defScope (top 28)) := ⟨rfl, rfl, rfl, by decide +kernel, rfl, by decide +kernel, by decide +kernel⟩
theorem tr_is_name : trSs 60 (mkCtx N_is_name (top 28) (fns_is_name) cnsG blG xsG mu_is_name) (defBody (top 28)) = some (t_is_name) := by kernel_rfl
def fns_need_name (c_is_name : Con) : List (Str × Nat × Con) := [("is_name", 1, c_is_name)]
def mu_need_name : List (Nat × Nat) := []
theorem sc_need_name : FnScope N_need_name ["thing"] (defScope (top 29)) := ⟨rfl, rfl, rfl, by decide +kernel, rfl, by decide +kernel, by decide +kernel⟩
theorem tr_need_name (c_is_name : Con) : trSs 60 (mkCtx N_need_name (top 29) (fns_need_name c_is_name) cnsG blG xsG mu_need_name) (defBody (top 29)) = some (t_need_name c_is_name) := by kernel_rfl
def fns_is_rule (c_is_condition c_is_name : Con) : List (Str × Nat × Con) := [("is_condition", 1, c_is_condition), ("is_name", 1, c_is_name)]
def mu_is_rule : List (Nat × Nat) := []
theorem sc_is_rule : FnScope N_is_rule ["thing"] (defScope (top 30)) := ⟨rfl, rfl, rfl, by decide +kernel, rfl, by decide +kernel, by decide +kernel⟩
theorem tr_is_rule (c_is_condition c_is_name : Con) : trSs 60 (mkCtx N_is_rule (top 30) (fns_is_rule c_is_condition c_is_name) cnsG blG xsG mu_is_rule) (defBody (top 30)) = some (t_is_rule c_is_condition c_is_name) := by kernel_rfl
def fns_need_rules (c_is_rule : Con) : List (Str × Nat × Con) := [("is_rule", 1, c_is_rule)]
def mu_need_rules : List (Nat × Nat) := []
theorem sc_need_rules : FnScope N_need_rules ["thing"] (defScope (top 31)) := ⟨rfl, rfl, rfl, by decide +kernel, rfl, by decide +kernel, by decide +kernel⟩
theorem tr_need_rules (c_is_rule : Con) : trSs 60 (mkCtx N_need_rules (top 31) (fns_need_rules c_is_rule) cnsG blG xsG mu_need_rules) (defBody (top 31)) = some (t_need_rules c_is_rule) := by kernel_rfl
def fns_form (c_fits : Con) : List (Str × Nat × Con) := [("fits", 2, c_fits)]
def mu_form : List (Nat × Nat) := []
theorem sc_form : FnScope N_form ["rules", "number"] (defScope (top 32)) := ⟨rfl, rfl, rfl, by decide +kernel, rfl, by decide +kernel, by decide +kernel⟩
theorem tr_form (c_fits : Con) : trSs 60 (mkCtx N_form (top 32) (fns_form c_fits) cnsG blG xsG mu_form) (defBody (top 32)) = some (t_form c_fits) := by kernel_rfl
def fns_form_of (c_form c_need_number c_need_rules : Con) : List (Str × Nat × Con) := [("form", 2, c_form), ("need_number", 1, c_need_number), ("need_rules", 1, c_need_rules)]
def mu_form_of : List (Nat × Nat) := []
theorem sc_form_of : FnScope N_form_of ["rules", "number"] (defScope (top 33)) := ⟨rfl, rfl, rfl, by decide +kernel, rfl, by decide +kernel, by decide +kernel⟩
theorem tr_form_of (c_form c_need_number c_need_rules : Con) : trSs 60 (mkCtx N_form_of (top 33) (fns_form_of c_form c_need_number c_need_rules) cnsG blG xsG mu_form_of) (defBody (top 33)) = some (t_form_of c_form c_need_number c_need_rules) := by kernel_rfl
def fns_cuts_of (c_edges : Con) : List (Str × Nat × Con) := [("edges", 1, c_edges)]
def mu_cuts_of : List (Nat × Nat) := []
theorem sc_cuts_of : FnScope N_cuts_of ["rules"] (defScope (top 34)) := ⟨rfl, rfl, rfl, by decide +kernel, rfl, by decide +kernel, by decide +kernel⟩
theorem tr_cuts_of (c_edges : Con) : trSs 60 (mkCtx N_cuts_of (top 34) (fns_cuts_of c_edges) cnsG blG xsG mu_cuts_of) (defBody (top 34)) = some (t_cuts_of c_edges) := by kernel_rfl
def fns_long_of (c_turn_of : Con) : List (Str × Nat × Con) := [("turn_of", 1, c_turn_of)]
def mu_long_of : List (Nat × Nat) := []
theorem sc_long_of : FnScope N_long_of ["rules"] (defScope (top 35)) := ⟨rfl, rfl, rfl, by decide +kernel, rfl, by decide +kernel, by decide +kernel⟩
theorem tr_long_of (c_turn_of : Con) : trSs 60 (mkCtx N_long_of (top 35) (fns_long_of c_turn_of) cnsG blG xsG mu_long_of) (defBody (top 35)) = some (t_long_of c_turn_of) := by kernel_rfl
def fns_parted (c_long_of c_cuts_of c_need_rules c_form : Con) (h_least_of_3 : W → Con → Con) : List (Str × Nat × Con) := [("long_of", 1, c_long_of), ("cuts_of", 1, c_cuts_of), ("need_rules", 1, c_need_rules)]
def mu_parted : List (Nat × Nat) := []
def lc_parted (c_long_of c_cuts_of c_need_rules c_form : Con) (h_least_of_3 : W → Con → Con) : Lc := { hfs := [("least_of", 1, 3, h_least_of_3)], lfns := [("form", 2, c_form)], mkr := true }
theorem sc_parted : FnScope N_parted ["one", "other"] (defScope (top 36)) := ⟨rfl, rfl, rfl, by decide +kernel, rfl, by decide +kernel, by decide +kernel⟩
theorem tr_parted (c_long_of c_cuts_of c_need_rules c_form : Con) (h_least_of_3 : W → Con → Con) : trSs 60 (mkCtx N_parted (top 36) (fns_parted c_long_of c_cuts_of c_need_rules c_form h_least_of_3) cnsG blG xsG mu_parted (lc_parted c_long_of c_cuts_of c_need_rules c_form h_least_of_3)) (defBody (top 36)) = some (t_parted c_long_of c_cuts_of c_need_rules c_form h_least_of_3) := by kernel_rfl
def fns_how_many_have (c_long_of c_cuts_of c_need_number c_need_name c_need_rules c_form : Con) (h_many_of : W → Con → Con) : List (Str × Nat × Con) := [("long_of", 1, c_long_of), ("cuts_of", 1, c_cuts_of), ("need_number", 1, c_need_number), ("need_name", 1, c_need_name), ("need_rules", 1, c_need_rules)]
def mu_how_many_have : List (Nat × Nat) := []
def lc_how_many_have (c_long_of c_cuts_of c_need_number c_need_name c_need_rules c_form : Con) (h_many_of : W → Con → Con) : Lc := { hfs := [("many_of", 1, 5, h_many_of)], lfns := [("form", 2, c_form)], mkr := true }
theorem sc_how_many_have : FnScope N_how_many_have ["rules", "word", "low", "high"] (defScope (top 37)) := ⟨rfl, rfl, rfl, by decide +kernel, rfl, by decide +kernel, by decide +kernel⟩
theorem tr_how_many_have (c_long_of c_cuts_of c_need_number c_need_name c_need_rules c_form : Con) (h_many_of : W → Con → Con) : trSs 60 (mkCtx N_how_many_have (top 37) (fns_how_many_have c_long_of c_cuts_of c_need_number c_need_name c_need_rules c_form h_many_of) cnsG blG xsG mu_how_many_have (lc_how_many_have c_long_of c_cuts_of c_need_number c_need_name c_need_rules c_form h_many_of)) (defBody (top 37)) = some (t_how_many_have c_long_of c_cuts_of c_need_number c_need_name c_need_rules c_form h_many_of) := by kernel_rfl
def fns_shortest (c_last_of : Con) : List (Str × Nat × Con) := [("last_of", 2, c_last_of)]
def mu_shortest : List (Nat × Nat) := []
theorem sc_shortest : FnScope N_shortest ["turn"] (defScope (top 39)) := ⟨rfl, rfl, rfl, by decide +kernel, rfl, by decide +kernel, by decide +kernel⟩
theorem tr_shortest (c_last_of : Con) : trSs 60 (mkCtx N_shortest (top 39) (fns_shortest c_last_of) cnsG blG xsG mu_shortest) (defBody (top 39)) = some (t_shortest c_last_of) := by kernel_rfl
def fns_least_table (c_shortest c_long_of c_form c_cuts_of c_need_rules : Con) : List (Str × Nat × Con) := [("shortest", 1, c_shortest), ("long_of", 1, c_long_of), ("form", 2, c_form), ("cuts_of", 1, c_cuts_of), ("need_rules", 1, c_need_rules)]
def mu_least_table : List (Nat × Nat) := [(142, 12)]
theorem sc_least_table : FnScope N_least_table ["rules"] (defScope (top 40)) := ⟨rfl, rfl, rfl, by decide +kernel, rfl, by decide +kernel, by decide +kernel⟩
theorem tr_least_table (c_shortest c_long_of c_form c_cuts_of c_need_rules : Con) : trSs 60 (mkCtx N_least_table (top 40) (fns_least_table c_shortest c_long_of c_form c_cuts_of c_need_rules) cnsG blG xsG mu_least_table) (defBody (top 40)) = some (t_least_table c_shortest c_long_of c_form c_cuts_of c_need_rules) := by kernel_rfl
def fns_is_row (c_is_name : Con) : List (Str × Nat × Con) := [("is_name", 1, c_is_name)]
def mu_is_row : List (Nat × Nat) := []
theorem sc_is_row : FnScope N_is_row ["thing"] (defScope (top 41)) := ⟨rfl, rfl, rfl, by decide +kernel, rfl, by decide +kernel, by decide +kernel⟩
theorem tr_is_row (c_is_name : Con) : trSs 60 (mkCtx N_is_row (top 41) (fns_is_row c_is_name) cnsG blG xsG mu_is_row) (defBody (top 41)) = some (t_is_row c_is_name) := by kernel_rfl
def fns_by_table (c_last_of c_need_number c_is_row : Con) : List (Str × Nat × Con) := [("last_of", 2, c_last_of), ("need_number", 1, c_need_number), ("is_row", 1, c_is_row)]
def mu_by_table : List (Nat × Nat) := []
theorem sc_by_table : FnScope N_by_table ["table", "number"] (defScope (top 42)) := ⟨rfl, rfl, rfl, by decide +kernel, rfl, by decide +kernel, by decide +kernel⟩
theorem tr_by_table (c_last_of c_need_number c_is_row : Con) : trSs 60 (mkCtx N_by_table (top 42) (fns_by_table c_last_of c_need_number c_is_row) cnsG blG xsG mu_by_table) (defBody (top 42)) = some (t_by_table c_last_of c_need_number c_is_row) := by kernel_rfl
def fns_law_cell : List (Str × Nat × Con) := []
def mu_law_cell : List (Nat × Nat) := []
theorem sc_law_cell : FnScope N_law_cell ["script", "k"] (defScope (top 44)) := ⟨rfl, rfl, rfl, by decide +kernel, rfl, by decide +kernel, by decide +kernel⟩
theorem tr_law_cell : trSs 60 (mkCtx N_law_cell (top 44) (fns_law_cell) cnsG blG xsG mu_law_cell) (defBody (top 44)) = some (t_law_cell) := by kernel_rfl
def fns_law_drawn : List (Str × Nat × Con) := []
def mu_law_drawn : List (Nat × Nat) := []
theorem sc_law_drawn : FnScope N_law_drawn ["cell", "k"] (defScope (top 45)) := ⟨rfl, rfl, rfl, by decide +kernel, rfl, by decide +kernel, by decide +kernel⟩
theorem tr_law_drawn : trSs 60 (mkCtx N_law_drawn (top 45) (fns_law_drawn) cnsG blG xsG mu_law_drawn) (defBody (top 45)) = some (t_law_drawn) := by kernel_rfl
def fns_law_roll (c_law_drawn : Con) : List (Str × Nat × Con) := [("_law_drawn", 2, c_law_drawn)]
def mu_law_roll : List (Nat × Nat) := []
theorem sc_law_roll : FnScope N_law_roll ["dice", "many"] (defScope (top 46)) := ⟨rfl, rfl, rfl, by decide +kernel, rfl, by decide +kernel, by decide +kernel⟩
theorem tr_law_roll (c_law_drawn : Con) : trSs 60 (mkCtx N_law_roll (top 46) (fns_law_roll c_law_drawn) cnsG blG xsG mu_law_roll) (defBody (top 46)) = some (t_law_roll c_law_drawn) := by kernel_rfl
def fns_law_rounds (c_law_cell : Con) : List (Str × Nat × Con) := [("_law_cell", 2, c_law_cell)]
def mu_law_rounds : List (Nat × Nat) := [(177, 12)]
theorem sc_law_rounds : FnScope N_law_rounds ["script", "most"] (defScope (top 47)) := ⟨rfl, rfl, rfl, by decide +kernel, rfl, by decide +kernel, by decide +kernel⟩
theorem tr_law_rounds (c_law_cell : Con) : trSs 60 (mkCtx N_law_rounds (top 47) (fns_law_rounds c_law_cell) cnsG blG xsG mu_law_rounds) (defBody (top 47)) = some (t_law_rounds c_law_cell) := by kernel_rfl
def fns_law_ranges (c_law_roll : Con) : List (Str × Nat × Con) := [("_law_roll", 2, c_law_roll)]
def mu_law_ranges : List (Nat × Nat) := [(179, 26)]
theorem sc_law_ranges : FnScope N_law_ranges ["dice", "most"] (defScope (top 48)) := ⟨rfl, rfl, rfl, by decide +kernel, rfl, by decide +kernel, by decide +kernel⟩
theorem tr_law_ranges (c_law_roll : Con) : trSs 60 (mkCtx N_law_ranges (top 48) (fns_law_ranges c_law_roll) cnsG blG xsG mu_law_ranges) (defBody (top 48)) = some (t_law_ranges c_law_roll) := by kernel_rfl
def fns_law_look (c_law_ranges c_law_roll : Con) : List (Str × Nat × Con) := [("_law_ranges", 2, c_law_ranges), ("_law_roll", 2, c_law_roll)]
def mu_law_look : List (Nat × Nat) := []
theorem sc_law_look : FnScope N_law_look ["dice", "far"] (defScope (top 49)) := ⟨rfl, rfl, rfl, by decide +kernel, rfl, by decide +kernel, by decide +kernel⟩
theorem tr_law_look (c_law_ranges c_law_roll : Con) : trSs 60 (mkCtx N_law_look (top 49) (fns_law_look c_law_ranges c_law_roll) cnsG blG xsG mu_law_look) (defBody (top 49)) = some (t_law_look c_law_ranges c_law_roll) := by kernel_rfl
def fns_law_condition (c_law_condition c_law_roll c_law_look : Con) : List (Str × Nat × Con) := [("_law_condition", 3, c_law_condition), ("_law_roll", 2, c_law_roll), ("_law_look", 2, c_law_look)]
def mu_law_condition : List (Nat × Nat) := []
theorem sc_law_condition : FnScope N_law_condition ["dice", "deep", "far"] (defScope (top 50)) := ⟨rfl, rfl, rfl, by decide +kernel, rfl, by decide +kernel, by decide +kernel⟩
theorem tr_law_condition (c_law_condition c_law_roll c_law_look : Con) : trSs 60 (mkCtx N_law_condition (top 50) (fns_law_condition c_law_condition c_law_roll c_law_look) cnsG blG xsG mu_law_condition) (defBody (top 50)) = some (t_law_condition c_law_condition c_law_roll c_law_look) := by kernel_rfl
def fns_law_name (c_law_roll : Con) : List (Str × Nat × Con) := [("_law_roll", 2, c_law_roll)]
def mu_law_name : List (Nat × Nat) := []
theorem sc_law_name : FnScope N_law_name ["dice"] (defScope (top 51)) := ⟨rfl, rfl, rfl, by decide +kernel, rfl, by decide +kernel, by decide +kernel⟩
theorem tr_law_name (c_law_roll : Con) : trSs 60 (mkCtx N_law_name (top 51) (fns_law_name c_law_roll) cnsG blG xsG mu_law_name) (defBody (top 51)) = some (t_law_name c_law_roll) := by kernel_rfl
def fns_law_rules (c_law_roll c_law_condition c_law_name : Con) : List (Str × Nat × Con) := [("_law_roll", 2, c_law_roll), ("_law_condition", 3, c_law_condition), ("_law_name", 1, c_law_name)]
def mu_law_rules : List (Nat × Nat) := [(202, 12)]
theorem sc_law_rules : FnScope N_law_rules ["dice", "deep", "far"] (defScope (top 52)) := ⟨rfl, rfl, rfl, by decide +kernel, rfl, by decide +kernel, by decide +kernel⟩
theorem tr_law_rules (c_law_roll c_law_condition c_law_name : Con) : trSs 60 (mkCtx N_law_rules (top 52) (fns_law_rules c_law_roll c_law_condition c_law_name) cnsG blG xsG mu_law_rules) (defBody (top 52)) = some (t_law_rules c_law_roll c_law_condition c_law_name) := by kernel_rfl
def fns_law (c_law_rounds c_how_many_have c_by_table c_form_of c_law_roll c_parted c_least_table c_law_rules : Con) : List (Str × Nat × Con) := [("_law_rounds", 2, c_law_rounds), ("how_many_have", 4, c_how_many_have), ("by_table", 2, c_by_table), ("form_of", 2, c_form_of), ("_law_roll", 2, c_law_roll), ("parted", 2, c_parted), ("least_table", 1, c_least_table), ("_law_rules", 3, c_law_rules)]
def mu_law : List (Nat × Nat) := [(226, 92), (224, 70)]
theorem sc_law : FnScope N_law_k51 ["script"] (defScope (top 53)) := ⟨rfl, rfl, rfl, by decide +kernel, rfl, by decide +kernel, by decide +kernel⟩
theorem tr_law (c_law_rounds c_how_many_have c_by_table c_form_of c_law_roll c_parted c_least_table c_law_rules : Con) : trSs 60 (mkCtx N_law_k51 (top 53) (fns_law c_law_rounds c_how_many_have c_by_table c_form_of c_law_roll c_parted c_least_table c_law_rules) cnsG blG xsG mu_law) (defBody (top 53)) = some (t_law_k51 c_law_rounds c_how_many_have c_by_table c_form_of c_law_roll c_parted c_least_table c_law_rules) := by kernel_rfl
end FW

set_option maxHeartbeats 0
namespace FW
open PySem PySem.Spec L2
def d_is_number : He.DefD := ⟨("is_number", none), "is_number", "is_number", defArgs (top 11), defBody (top 11), defScope (top 11), [], []⟩
def d_need_number : He.DefD := ⟨("need_number", none), "need_number", "need_number", defArgs (top 12), defBody (top 12), defScope (top 12), [], []⟩
def d_are_ranges : He.DefD := ⟨("are_ranges", none), "are_ranges", "are_ranges", defArgs (top 13), defBody (top 13), defScope (top 13), [], []⟩
def d_parts_of : He.DefD := ⟨("parts_of", none), "parts_of", "parts_of", defArgs (top 14), defBody (top 14), defScope (top 14), [], []⟩
def d_is_condition : He.DefD := ⟨("is_condition", none), "is_condition", "is_condition", defArgs (top 15), defBody (top 15), defScope (top 15), [], []⟩
def d_last_of : He.DefD := ⟨("last_of", none), "last_of", "last_of", defArgs (top 16), defBody (top 16), defScope (top 16), [], []⟩
def d_fits : He.DefD := ⟨("fits", none), "fits", "fits", defArgs (top 17), defBody (top 17), defScope (top 17), [], []⟩
def d_edges : He.DefD := ⟨("edges", none), "edges", "edges", defArgs (top 18), defBody (top 18), defScope (top 18), [], []⟩
def d_turn_of : He.DefD := ⟨("turn_of", none), "turn_of", "turn_of", defArgs (top 19), defBody (top 19), defScope (top 19), [], []⟩
def d_spots : He.DefD := ⟨("spots", none), "spots", "spots", defArgs (top 21), defBody (top 21), defScope (top 21), [], []⟩
def d_least_of : He.DefD := ⟨("least_of", none), "least_of", "least_of", defArgs (top 22), defBody (top 22), defScope (top 22), [.int 0], []⟩
def d_many_of : He.DefD := ⟨("many_of", none), "many_of", "many_of", defArgs (top 23), defBody (top 23), defScope (top 23), [], []⟩
def d_is_name : He.DefD := ⟨("is_name", none), "is_name", "is_name", defArgs (top 28), defBody (top 28), defScope (top 28), [], []⟩
def d_need_name : He.DefD := ⟨("need_name", none), "need_name", "need_name", defArgs (top 29), defBody (top 29), defScope (top 29), [], []⟩
def d_is_rule : He.DefD := ⟨("is_rule", none), "is_rule", "is_rule", defArgs (top 30), defBody (top 30), defScope (top 30), [], []⟩
def d_need_rules : He.DefD := ⟨("need_rules", none), "need_rules", "need_rules", defArgs (top 31), defBody (top 31), defScope (top 31), [], []⟩
def d_form : He.DefD := ⟨("form", none), "form", "form", defArgs (top 32), defBody (top 32), defScope (top 32), [], []⟩
def d_form_of : He.DefD := ⟨("form_of", none), "form_of", "form_of", defArgs (top 33), defBody (top 33), defScope (top 33), [], []⟩
def d_cuts_of : He.DefD := ⟨("cuts_of", none), "cuts_of", "cuts_of", defArgs (top 34), defBody (top 34), defScope (top 34), [], []⟩
def d_long_of : He.DefD := ⟨("long_of", none), "long_of", "long_of", defArgs (top 35), defBody (top 35), defScope (top 35), [], []⟩
def d_parted : He.DefD := ⟨("parted", none), "parted", "parted", defArgs (top 36), defBody (top 36), defScope (top 36), [], []⟩
def d_how_many_have : He.DefD := ⟨("how_many_have", none), "how_many_have", "how_many_have", defArgs (top 37), defBody (top 37), defScope (top 37), [], []⟩
def d_shortest : He.DefD := ⟨("shortest", none), "shortest", "shortest", defArgs (top 39), defBody (top 39), defScope (top 39), [], []⟩
def d_least_table : He.DefD := ⟨("least_table", none), "least_table", "least_table", defArgs (top 40), defBody (top 40), defScope (top 40), [], []⟩
def d_is_row : He.DefD := ⟨("is_row", none), "is_row", "is_row", defArgs (top 41), defBody (top 41), defScope (top 41), [], []⟩
def d_by_table : He.DefD := ⟨("by_table", none), "by_table", "by_table", defArgs (top 42), defBody (top 42), defScope (top 42), [], []⟩
def d_law_cell : He.DefD := ⟨("_law_cell", none), "_law_cell", "_law_cell", defArgs (top 44), defBody (top 44), defScope (top 44), [], []⟩
def d_law_drawn : He.DefD := ⟨("_law_drawn", none), "_law_drawn", "_law_drawn", defArgs (top 45), defBody (top 45), defScope (top 45), [], []⟩
def d_law_roll : He.DefD := ⟨("_law_roll", none), "_law_roll", "_law_roll", defArgs (top 46), defBody (top 46), defScope (top 46), [], []⟩
def d_law_rounds : He.DefD := ⟨("_law_rounds", none), "_law_rounds", "_law_rounds", defArgs (top 47), defBody (top 47), defScope (top 47), [], []⟩
def d_law_ranges : He.DefD := ⟨("_law_ranges", none), "_law_ranges", "_law_ranges", defArgs (top 48), defBody (top 48), defScope (top 48), [], []⟩
def d_law_look : He.DefD := ⟨("_law_look", none), "_law_look", "_law_look", defArgs (top 49), defBody (top 49), defScope (top 49), [], []⟩
def d_law_condition : He.DefD := ⟨("_law_condition", none), "_law_condition", "_law_condition", defArgs (top 50), defBody (top 50), defScope (top 50), [], []⟩
def d_law_name : He.DefD := ⟨("_law_name", none), "_law_name", "_law_name", defArgs (top 51), defBody (top 51), defScope (top 51), [], []⟩
def d_law_rules : He.DefD := ⟨("_law_rules", none), "_law_rules", "_law_rules", defArgs (top 52), defBody (top 52), defScope (top 52), [], []⟩
def d_law : He.DefD := ⟨("law", none), "law", "law", defArgs (top 53), defBody (top 53), defScope (top 53), [], []⟩
def fnV : List He.DefD := [d_is_number, d_need_number, d_are_ranges, d_parts_of, d_is_condition, d_last_of, d_fits, d_edges, d_turn_of, d_spots, d_least_of, d_many_of, d_is_name, d_need_name, d_is_rule, d_need_rules, d_form, d_form_of, d_cuts_of, d_long_of, d_parted, d_how_many_have, d_shortest, d_least_table, d_is_row, d_by_table, d_law_cell, d_law_drawn, d_law_roll, d_law_rounds, d_law_ranges, d_law_look, d_law_condition, d_law_name, d_law_rules, d_law]
def faV : List He.Fa := [.glo "is_number", .glo "need_number", .glo "are_ranges", .glo "parts_of", .glo "is_condition", .glo "last_of", .glo "fits", .glo "edges", .glo "turn_of", .glo "spots", .glo "least_of", .glo "many_of", .glo "is_name", .glo "need_name", .glo "is_rule", .glo "need_rules", .glo "form", .glo "form_of", .glo "cuts_of", .glo "long_of", .glo "parted", .glo "how_many_have", .glo "shortest", .glo "least_table", .glo "is_row", .glo "by_table", .glo "_law_cell", .glo "_law_drawn", .glo "_law_roll", .glo "_law_rounds", .glo "_law_ranges", .glo "_law_look", .glo "_law_condition", .glo "_law_name", .glo "_law_rules", .glo "law", .free "isinstance", .free "len", .free "int", .free "tuple", .free "str", .free "bool", .free "list", .free "dict", .free "range", .free "max", .free "min", .free "any", .free "all", .free "sum", .free "set", .free "sorted", .free "zip", .free "divmod", .free "enumerate", .int "GREATEST" (10 ^ 15), .glo "LOOKS", .glo "TURNS", .int "MOST_DEEP" 6, .int "MOST_PARTS" 60, .str "LETTERS" "abcdefghijklmnopqrstuvwxyz", .str "OTHER" "other", .int "MOST_RULES" 6, .glo "BadNumber", .exc "BadNumber", .glo "BadRules", .exc "BadRules", .glo "BadName", .exc "BadName"]
def vsV : List VTab := [("LOOKS", [("all", 1000000), ("last1", 9), ("last2", 99), ("last3", 999)]), ("TURNS", [("all", 1), ("last1", 10), ("last2", 100), ("last3", 1000)])]
def mksV : List Str := ["parted", "how_many_have", "law"]
abbrev RV : PySem.W.OpenRow := PySem.W.OpenLaw.row PySem.Challenge.rw_formwords_k51_whole_tables_and_rules
abbrev hkV : PySem.W.Hook := hookV 4 faV fnV vsV mksV
def obV (s : PySem.W.SharedT) : AlV := obsVG 4 faV fnV vsV mksV (HandSHeadRun.getT s)
theorem obV_eq (s : PySem.W.SharedT) : obV s = hkV.obs s.abs := obsVG_eq (HandSHeadRun.getT_eq s)
def looseV : List PySem.Str := (["FormError", "BadNumber", "BadRules", "BadName", "GREATEST", "LOOKS", "TURNS", "MOST_DEEP", "MOST_PARTS", "is_number", "need_number", "are_ranges", "parts_of", "is_condition", "last_of", "fits", "edges", "turn_of", "spots", "least_of", "many_of", "LETTERS", "OTHER", "MOST_RULES", "is_name", "need_name", "is_rule", "need_rules", "form", "form_of"] : List PySem.Str) ++ (["cuts_of", "long_of", "parted", "how_many_have", "shortest", "least_table", "is_row", "by_table", "_law_cell", "_law_drawn", "_law_roll", "_law_rounds", "_law_ranges", "_law_look", "_law_condition", "_law_name", "_law_rules"] : List PySem.Str)
abbrev qvV : Program := PySem.W.view RV.prog [53]
theorem runF (w : World) : HandSHeadRun.RunEq RV qvV hkV obV 4000 looseV (w.withFollow "special-get-raises" false) := by
  intro os
  kernel_rfl
theorem runT (w : World) : HandSHeadRun.RunEq RV qvV hkV obV 4000 looseV (w.withFollow "special-get-raises" true) := by
  intro os
  kernel_rfl
theorem runV (w : World) : HandSHeadRun.RunEq RV qvV hkV obV 4000 looseV w := PySem.W.byRow2 "special-get-raises" runF runT w
def lawIx : Nat := 35
end FW

set_option maxHeartbeats 0
namespace FW
open PySem PySem.Spec L2
section
variable {P : Program} {w : World} {K : PySem.W.Frag} {mg : Str → Option Value}
theorem gokV {h : Heap} (X : K.In h) (G : h.Ns mainGlobals mg) (c : SaysV faV fnV vsV mksV w h K) : GOk P w K mg cnsG blG xsG where
  cok := by
    intro x a hm
    simp only [cnsG, List.mem_cons, List.not_mem_nil, or_false, Prod.mk.injEq] at hm
    rcases hm with ⟨rfl, rfl⟩ | ⟨rfl, rfl⟩ | ⟨rfl, rfl⟩ | ⟨rfl, rfl⟩ | ⟨rfl, rfl⟩ | ⟨rfl, rfl⟩ | ⟨rfl, rfl⟩ | ⟨rfl, rfl⟩
    · exact cok_int (He.int_ok X G ((sv_d c).fact 55 (f := .int "GREATEST" (10 ^ 15)) rfl))
    · exact cok_dct (He.glo_ok X G ((sv_d c).fact 56 (f := .glo "LOOKS") rfl)) (sv_kd c 0 rfl)
    · exact cok_dct (He.glo_ok X G ((sv_d c).fact 57 (f := .glo "TURNS") rfl)) (sv_kd c 1 rfl)
    · exact cok_int (He.int_ok X G ((sv_d c).fact 58 (f := .int "MOST_DEEP" 6) rfl))
    · exact cok_int (He.int_ok X G ((sv_d c).fact 59 (f := .int "MOST_PARTS" 60) rfl))
    · exact cok_str (He.str_ok X G ((sv_d c).fact 60 (f := .str "LETTERS" "abcdefghijklmnopqrstuvwxyz") rfl))
    · exact cok_str (He.str_ok X G ((sv_d c).fact 61 (f := .str "OTHER" "other") rfl))
    · exact cok_int (He.int_ok X G ((sv_d c).fact 62 (f := .int "MOST_RULES" 6) rfl))
  bok := by
    intro x hm
    simp only [blG, List.mem_cons, List.not_mem_nil, or_false] at hm
    rcases hm with rfl | rfl | rfl | rfl | rfl | rfl | rfl | rfl | rfl | rfl | rfl | rfl | rfl | rfl | rfl | rfl | rfl | rfl | rfl
    · exact He.free_ok X G ((sv_d c).fact 36 (f := .free "isinstance") rfl)
    · exact He.free_ok X G ((sv_d c).fact 37 (f := .free "len") rfl)
    · exact He.free_ok X G ((sv_d c).fact 38 (f := .free "int") rfl)
    · exact He.free_ok X G ((sv_d c).fact 39 (f := .free "tuple") rfl)
    · exact He.free_ok X G ((sv_d c).fact 40 (f := .free "str") rfl)
    · exact He.free_ok X G ((sv_d c).fact 41 (f := .free "bool") rfl)
    · exact He.free_ok X G ((sv_d c).fact 42 (f := .free "list") rfl)
    · exact He.free_ok X G ((sv_d c).fact 43 (f := .free "dict") rfl)
    · exact He.free_ok X G ((sv_d c).fact 44 (f := .free "range") rfl)
    · exact He.free_ok X G ((sv_d c).fact 45 (f := .free "max") rfl)
    · exact He.free_ok X G ((sv_d c).fact 46 (f := .free "min") rfl)
    · exact He.free_ok X G ((sv_d c).fact 47 (f := .free "any") rfl)
    · exact He.free_ok X G ((sv_d c).fact 48 (f := .free "all") rfl)
    · exact He.free_ok X G ((sv_d c).fact 49 (f := .free "sum") rfl)
    · exact He.free_ok X G ((sv_d c).fact 50 (f := .free "set") rfl)
    · exact He.free_ok X G ((sv_d c).fact 51 (f := .free "sorted") rfl)
    · exact He.free_ok X G ((sv_d c).fact 52 (f := .free "zip") rfl)
    · exact He.free_ok X G ((sv_d c).fact 53 (f := .free "divmod") rfl)
    · exact He.free_ok X G ((sv_d c).fact 54 (f := .free "enumerate") rfl)
  xok := by
    intro x hm
    simp only [xsG, List.mem_cons, List.not_mem_nil, or_false] at hm
    rcases hm with rfl | rfl | rfl
    · exact xok_of X G ((sv_d c).fact 63 (f := .glo "BadNumber") rfl) ((sv_d c).fact 64 (f := .exc "BadNumber") rfl)
    · exact xok_of X G ((sv_d c).fact 65 (f := .glo "BadRules") rfl) ((sv_d c).fact 66 (f := .exc "BadRules") rfl)
    · exact xok_of X G ((sv_d c).fact 67 (f := .glo "BadName") rfl) ((sv_d c).fact 68 (f := .exc "BadName") rfl)
theorem factsV {h : Heap} {f : Addr} (X : K.In h) (G : h.Ns mainGlobals mg) (hfa : mg ("law" : Str) = some (.ref f)) (c : SaysV faV fnV vsV mksV w h K) :
    ∃ fd : FuncData, (∀ (s : Shared) (v : Value), BindsTo s fd ⟨[v], []⟩ [("script", v)]) ∧ ∀ base : Heap, GB K mg base → FnOk P w K mg base (CX P w) 15 f fd ["script"] (spW ⟨K, w, mg⟩ 1 c_law) := by
  have GO : GOk P w K mg cnsG blG xsG := gokV X G c
  obtain ⟨fd_is_number, D_is_number⟩ := (sv_d c).def_ 0 (d := d_is_number) rfl
  have g_is_number := He.glo_ok X G ((sv_d c).fact 0 (f := .glo "is_number") rfl)
  have n_is_number : Binds K fd_is_number ["thing", "low", "high"] [] := FunD.bindsN D_is_number fun _ _ _ _ _ _ us hl => match us, hl with | [_, _, _], _ => rfl
  have F_is_number : FnW P w K mg 1 "is_number" 3 c_is_number := fn_w (k := 0) D_is_number sc_is_number n_is_number g_is_number GO .nil (tr_is_number) b_is_number
  obtain ⟨fd_need_number, D_need_number⟩ := (sv_d c).def_ 1 (d := d_need_number) rfl
  have g_need_number := He.glo_ok X G ((sv_d c).fact 1 (f := .glo "need_number") rfl)
  have n_need_number : Binds K fd_need_number ["thing"] [] := FunD.bindsN D_need_number fun _ _ _ _ _ _ us hl => match us, hl with | [_], _ => rfl
  have F_need_number : FnW P w K mg 2 "need_number" 1 c_need_number := fn_w (k := 1) D_need_number sc_need_number n_need_number g_need_number GO (.cons (FnW.mono F_is_number (by decide)) .nil) (tr_need_number c_is_number) b_need_number
  obtain ⟨fd_are_ranges, D_are_ranges⟩ := (sv_d c).def_ 2 (d := d_are_ranges) rfl
  have g_are_ranges := He.glo_ok X G ((sv_d c).fact 2 (f := .glo "are_ranges") rfl)
  have n_are_ranges : Binds K fd_are_ranges ["thing", "most"] [] := FunD.bindsN D_are_ranges fun _ _ _ _ _ _ us hl => match us, hl with | [_, _], _ => rfl
  have F_are_ranges : FnW P w K mg 2 "are_ranges" 2 c_are_ranges := fn_w (k := 1) D_are_ranges sc_are_ranges n_are_ranges g_are_ranges GO (.cons (FnW.mono F_is_number (by decide)) .nil) (tr_are_ranges c_is_number) b_are_ranges
  obtain ⟨fd_parts_of, D_parts_of⟩ := (sv_d c).def_ 3 (d := d_parts_of) rfl
  have g_parts_of := He.glo_ok X G ((sv_d c).fact 3 (f := .glo "parts_of") rfl)
  have n_parts_of : Binds K fd_parts_of ["thing", "deep"] [] := FunD.bindsN D_parts_of fun _ _ _ _ _ _ us hl => match us, hl with | [_, _], _ => rfl
  have FG_parts_of : ∀ n, FnW P w K mg (3 + 1 * n) "parts_of" 2 (c_parts_of n) := by
    intro n
    induction n with
    | zero => exact FnW.imp (fn_no (st := top 14) (k := 2) D_parts_of sc_parts_of n_parts_of g_parts_of) (fun ws m R Z h => by unfold c_parts_of at h; split at h <;> first | exact h | (exfalso; omega))
    | succ n ih =>
      have B0 : FnW P w K mg (3 + 1 * n + 1) "parts_of" 2 (c_parts_of (n + 1)) := fn_w (st := top 14) (k := (3 + 1 * n + 0)) D_parts_of sc_parts_of n_parts_of g_parts_of GO (.cons (FnW.mono ih (by omega)) (.cons (FnW.mono F_are_ranges (by omega)) .nil)) (tr_parts_of (c_parts_of n) c_are_ranges) (b_parts_of n)
      exact FnW.mono B0 (by omega)
  have F_parts_of := fun n => (FG_parts_of n)
  obtain ⟨fd_is_condition, D_is_condition⟩ := (sv_d c).def_ 4 (d := d_is_condition) rfl
  have g_is_condition := He.glo_ok X G ((sv_d c).fact 4 (f := .glo "is_condition") rfl)
  have n_is_condition : Binds K fd_is_condition ["thing"] [] := FunD.bindsN D_is_condition fun _ _ _ _ _ _ us hl => match us, hl with | [_], _ => rfl
  have F_is_condition : FnW P w K mg 11 "is_condition" 1 c_is_condition := fn_w (k := 10) D_is_condition sc_is_condition n_is_condition g_is_condition GO (.cons (FnW.mono (F_parts_of 7) (by decide)) .nil) (tr_is_condition (c_parts_of 7)) b_is_condition
  obtain ⟨fd_last_of, D_last_of⟩ := (sv_d c).def_ 5 (d := d_last_of) rfl
  have g_last_of := He.glo_ok X G ((sv_d c).fact 5 (f := .glo "last_of") rfl)
  have n_last_of : Binds K fd_last_of ["number", "turn"] [] := FunD.bindsN D_last_of fun _ _ _ _ _ _ us hl => match us, hl with | [_, _], _ => rfl
  have F_last_of : FnW P w K mg 1 "last_of" 2 c_last_of := fn_w (k := 0) D_last_of sc_last_of n_last_of g_last_of GO .nil (tr_last_of) b_last_of
  obtain ⟨fd_fits, D_fits⟩ := (sv_d c).def_ 6 (d := d_fits) rfl
  have g_fits := He.glo_ok X G ((sv_d c).fact 6 (f := .glo "fits") rfl)
  have n_fits : Binds K fd_fits ["condition", "number"] [] := FunD.bindsN D_fits fun _ _ _ _ _ _ us hl => match us, hl with | [_, _], _ => rfl
  have FG_fits : ∀ n, FnW P w K mg (2 + 1 * n) "fits" 2 (c_fits n) := by
    intro n
    induction n with
    | zero => exact FnW.imp (fn_no (st := top 17) (k := 1) D_fits sc_fits n_fits g_fits) (fun ws m R Z h => by unfold c_fits at h; split at h <;> first | exact h | (obtain ⟨c, _, h, _⟩ := h; exact h.elim))
    | succ n ih =>
      have B0 : FnW P w K mg (2 + 1 * n + 1) "fits" 2 (c_fits (n + 1)) := fn_w (st := top 17) (k := (2 + 1 * n + 0)) D_fits sc_fits n_fits g_fits GO (.cons (FnW.mono ih (by omega)) (.cons (FnW.mono F_last_of (by omega)) .nil)) (tr_fits (c_fits n) c_last_of) (b_fits n)
      exact FnW.mono B0 (by omega)
  have F_fits := fun n => (FG_fits n)
  obtain ⟨fd_edges, D_edges⟩ := (sv_d c).def_ 7 (d := d_edges) rfl
  have g_edges := He.glo_ok X G ((sv_d c).fact 7 (f := .glo "edges") rfl)
  have n_edges : Binds K fd_edges ["condition"] [] := FunD.bindsN D_edges fun _ _ _ _ _ _ us hl => match us, hl with | [_], _ => rfl
  have FG_edges : ∀ n, FnW P w K mg (1 + 1 * n) "edges" 1 (c_edges n) := by
    intro n
    induction n with
    | zero => exact FnW.imp (fn_no (st := top 18) (k := 0) D_edges sc_edges n_edges g_edges) (fun ws m R Z h => by unfold c_edges at h; split at h <;> first | exact h | (obtain ⟨c, _, h, _⟩ := h; exact h.elim))
    | succ n ih =>
      have B0 : FnW P w K mg (1 + 1 * n + 1) "edges" 1 (c_edges (n + 1)) := fn_w (st := top 18) (k := (1 + 1 * n + 0)) D_edges sc_edges n_edges g_edges GO (.cons (FnW.mono ih (by omega)) .nil) (tr_edges (c_edges n)) (b_edges n)
      exact FnW.mono B0 (by omega)
  have F_edges := fun n => (FG_edges n)
  obtain ⟨fd_turn_of, D_turn_of⟩ := (sv_d c).def_ 8 (d := d_turn_of) rfl
  have g_turn_of := He.glo_ok X G ((sv_d c).fact 8 (f := .glo "turn_of") rfl)
  have n_turn_of : Binds K fd_turn_of ["condition"] [] := FunD.bindsN D_turn_of fun _ _ _ _ _ _ us hl => match us, hl with | [_], _ => rfl
  have FG_turn_of : ∀ n, FnW P w K mg (1 + 1 * n) "turn_of" 1 (c_turn_of n) := by
    intro n
    induction n with
    | zero => exact FnW.imp (fn_no (st := top 19) (k := 0) D_turn_of sc_turn_of n_turn_of g_turn_of) (fun ws m R Z h => by unfold c_turn_of at h; split at h <;> first | exact h | (obtain ⟨c, _, h, _⟩ := h; exact h.elim))
    | succ n ih =>
      have B0 : FnW P w K mg (1 + 1 * n + 1) "turn_of" 1 (c_turn_of (n + 1)) := fn_w (st := top 19) (k := (1 + 1 * n + 0)) D_turn_of sc_turn_of n_turn_of g_turn_of GO (.cons (FnW.mono ih (by omega)) .nil) (tr_turn_of (c_turn_of n)) (b_turn_of n)
      exact FnW.mono B0 (by omega)
  have F_turn_of := fun n => (FG_turn_of n)
  obtain ⟨fd_spots, D_spots⟩ := (sv_d c).def_ 9 (d := d_spots) rfl
  have g_spots := He.glo_ok X G ((sv_d c).fact 9 (f := .glo "spots") rfl)
  have n_spots : Binds K fd_spots ["cuts", "turn", "since"] [] := FunD.bindsN D_spots fun _ _ _ _ _ _ us hl => match us, hl with | [_, _, _], _ => rfl
  have F_spots : FnW P w K mg 1 "spots" 3 c_spots := fn_w (k := 0) D_spots sc_spots n_spots g_spots GO .nil (tr_spots) b_spots
  obtain ⟨fd_is_name, D_is_name⟩ := (sv_d c).def_ 12 (d := d_is_name) rfl
  have g_is_name := He.glo_ok X G ((sv_d c).fact 12 (f := .glo "is_name") rfl)
  have n_is_name : Binds K fd_is_name ["thing"] [] := FunD.bindsN D_is_name fun _ _ _ _ _ _ us hl => match us, hl with | [_], _ => rfl
  have F_is_name : FnW P w K mg 1 "is_name" 1 c_is_name := fn_w (k := 0) D_is_name sc_is_name n_is_name g_is_name GO .nil (tr_is_name) b_is_name
  obtain ⟨fd_need_name, D_need_name⟩ := (sv_d c).def_ 13 (d := d_need_name) rfl
  have g_need_name := He.glo_ok X G ((sv_d c).fact 13 (f := .glo "need_name") rfl)
  have n_need_name : Binds K fd_need_name ["thing"] [] := FunD.bindsN D_need_name fun _ _ _ _ _ _ us hl => match us, hl with | [_], _ => rfl
  have F_need_name : FnW P w K mg 2 "need_name" 1 c_need_name := fn_w (k := 1) D_need_name sc_need_name n_need_name g_need_name GO (.cons (FnW.mono F_is_name (by decide)) .nil) (tr_need_name c_is_name) b_need_name
  obtain ⟨fd_is_rule, D_is_rule⟩ := (sv_d c).def_ 14 (d := d_is_rule) rfl
  have g_is_rule := He.glo_ok X G ((sv_d c).fact 14 (f := .glo "is_rule") rfl)
  have n_is_rule : Binds K fd_is_rule ["thing"] [] := FunD.bindsN D_is_rule fun _ _ _ _ _ _ us hl => match us, hl with | [_], _ => rfl
  have F_is_rule : FnW P w K mg 12 "is_rule" 1 c_is_rule := fn_w (k := 11) D_is_rule sc_is_rule n_is_rule g_is_rule GO (.cons (FnW.mono F_is_condition (by decide)) (.cons (FnW.mono F_is_name (by decide)) .nil)) (tr_is_rule c_is_condition c_is_name) b_is_rule
  obtain ⟨fd_need_rules, D_need_rules⟩ := (sv_d c).def_ 15 (d := d_need_rules) rfl
  have g_need_rules := He.glo_ok X G ((sv_d c).fact 15 (f := .glo "need_rules") rfl)
  have n_need_rules : Binds K fd_need_rules ["thing"] [] := FunD.bindsN D_need_rules fun _ _ _ _ _ _ us hl => match us, hl with | [_], _ => rfl
  have F_need_rules : FnW P w K mg 13 "need_rules" 1 c_need_rules := fn_w (k := 12) D_need_rules sc_need_rules n_need_rules g_need_rules GO (.cons (FnW.mono F_is_rule (by decide)) .nil) (tr_need_rules c_is_rule) b_need_rules
  obtain ⟨fd_form, D_form⟩ := (sv_d c).def_ 16 (d := d_form) rfl
  have g_form := He.glo_ok X G ((sv_d c).fact 16 (f := .glo "form") rfl)
  have n_form : Binds K fd_form ["rules", "number"] [] := FunD.bindsN D_form fun _ _ _ _ _ _ us hl => match us, hl with | [_, _], _ => rfl
  have F_form : FnW P w K mg 9 "form" 2 c_form := fn_w (k := 8) D_form sc_form n_form g_form GO (.cons (FnW.mono (F_fits 6) (by decide)) .nil) (tr_form (c_fits 6)) b_form
  obtain ⟨fd_many_of, D_many_of⟩ := (sv_d c).def_ 11 (d := d_many_of) rfl
  have g_many_of := He.glo_ok X G ((sv_d c).fact 11 (f := .glo "many_of") rfl)
  have n_many_of : Binds K fd_many_of ["test", "cuts", "turn", "low", "high"] [] := FunD.bindsN D_many_of fun _ _ _ _ _ _ us hl => match us, hl with | [_, _, _, _, _], _ => rfl
  have H_many_of : HFn P w K mg 10 11 "many_of" 1 5 h_many_of := fn_h (st := top 23) (dvs := []) (k := 10) (kl := 10) (dw := []) (C := h_many_of) (C0 := h_many_of) D_many_of sc_many_of n_many_of .nil (fun _ _ => .nil) rfl g_many_of GO .nil (by decide) (fun F c_test => tr_many_of F c_test) (fun _ _ ws _ _ _ q => by rw [List.append_nil]; exact q) (fun F con => b_many_of F con)
  obtain ⟨fd_least_of, D_least_of⟩ := (sv_d c).def_ 10 (d := d_least_of) rfl
  have g_least_of := He.glo_ok X G ((sv_d c).fact 10 (f := .glo "least_of") rfl)
  obtain ⟨ds_least_of_3, v_least_of_3, n_least_of_3⟩ := FunD.binds1 (ps := ["test", "cuts", "turn", "since"]) D_least_of 3 0 (fun h => by cases h) rfl (fun _ _ _ _ _ _ _ us its h1 h2 => match us, its, h1, h2 with | [_, _, _], [_], _, _ => ⟨_, rfl, rfl⟩)
  have H_least_of_3 : HFn P w K mg 10 11 "least_of" 1 3 h_least_of_3 := fn_h (st := top 22) (dvs := [.int 0]) (k := 10) (kl := 10) (dw := [.int 0]) (C := h_least_of_3) (C0 := h_least_of) D_least_of sc_least_of n_least_of_3 v_least_of_3 (fun _ _ => (.cons (.int 0) .nil)) rfl g_least_of GO (.cons (FnW.mono F_spots (by decide)) .nil) (by decide) (fun F c_test => tr_least_of F c_test c_spots) (fun _ _ _ _ _ _ q => q) (fun F con => b_least_of F con)
  obtain ⟨fd_form_of, D_form_of⟩ := (sv_d c).def_ 17 (d := d_form_of) rfl
  have g_form_of := He.glo_ok X G ((sv_d c).fact 17 (f := .glo "form_of") rfl)
  have n_form_of : Binds K fd_form_of ["rules", "number"] [] := FunD.bindsN D_form_of fun _ _ _ _ _ _ us hl => match us, hl with | [_, _], _ => rfl
  have F_form_of : FnW P w K mg 14 "form_of" 2 c_form_of := fn_w (k := 13) D_form_of sc_form_of n_form_of g_form_of GO (.cons (FnW.mono F_form (by decide)) (.cons (FnW.mono F_need_number (by decide)) (.cons (FnW.mono F_need_rules (by decide)) .nil))) (tr_form_of c_form c_need_number c_need_rules) b_form_of
  obtain ⟨fd_cuts_of, D_cuts_of⟩ := (sv_d c).def_ 18 (d := d_cuts_of) rfl
  have g_cuts_of := He.glo_ok X G ((sv_d c).fact 18 (f := .glo "cuts_of") rfl)
  have n_cuts_of : Binds K fd_cuts_of ["rules"] [] := FunD.bindsN D_cuts_of fun _ _ _ _ _ _ us hl => match us, hl with | [_], _ => rfl
  have F_cuts_of : FnW P w K mg 8 "cuts_of" 1 c_cuts_of := fn_w (k := 7) D_cuts_of sc_cuts_of n_cuts_of g_cuts_of GO (.cons (FnW.mono (F_edges 6) (by decide)) .nil) (tr_cuts_of (c_edges 6)) b_cuts_of
  obtain ⟨fd_long_of, D_long_of⟩ := (sv_d c).def_ 19 (d := d_long_of) rfl
  have g_long_of := He.glo_ok X G ((sv_d c).fact 19 (f := .glo "long_of") rfl)
  have n_long_of : Binds K fd_long_of ["rules"] [] := FunD.bindsN D_long_of fun _ _ _ _ _ _ us hl => match us, hl with | [_], _ => rfl
  have F_long_of : FnW P w K mg 8 "long_of" 1 c_long_of := fn_w (k := 7) D_long_of sc_long_of n_long_of g_long_of GO (.cons (FnW.mono (F_turn_of 6) (by decide)) .nil) (tr_long_of (c_turn_of 6)) b_long_of
  obtain ⟨fd_parted, D_parted⟩ := (sv_d c).def_ 20 (d := d_parted) rfl
  have g_parted := He.glo_ok X G ((sv_d c).fact 20 (f := .glo "parted") rfl)
  have n_parted : Binds K fd_parted ["one", "other"] [] := FunD.bindsN D_parted fun _ _ _ _ _ _ us hl => match us, hl with | [_, _], _ => rfl
  have F_parted : FnW P w K mg 14 "parted" 2 c_parted := fn_wl (st := top 36) (dvs := []) (k := 13) (kl := 9) (dw := []) (c0 := c_parted) D_parted sc_parted n_parted .nil (fun _ _ => .nil) rfl g_parted GO (.cons (FnW.mono F_long_of (by decide)) (.cons (FnW.mono F_cuts_of (by decide)) (.cons (FnW.mono F_need_rules (by decide)) .nil))) (.cons (FnW.mono F_form (by decide)) .nil) (.cons (HFn.mono H_least_of_3 (by decide)) .nil) rfl (fun _ => sv_mk c rfl ((sv_d c).fact 20 (f := .glo "parted") rfl)) (CsOk.no rfl rfl rfl rfl rfl) (tr_parted c_long_of c_cuts_of c_need_rules c_form h_least_of_3) (fun ws _ _ _ q => by rw [List.append_nil]; exact q) b_parted
  obtain ⟨fd_how_many_have, D_how_many_have⟩ := (sv_d c).def_ 21 (d := d_how_many_have) rfl
  have g_how_many_have := He.glo_ok X G ((sv_d c).fact 21 (f := .glo "how_many_have") rfl)
  have n_how_many_have : Binds K fd_how_many_have ["rules", "word", "low", "high"] [] := FunD.bindsN D_how_many_have fun _ _ _ _ _ _ us hl => match us, hl with | [_, _, _, _], _ => rfl
  have F_how_many_have : FnW P w K mg 14 "how_many_have" 4 c_how_many_have := fn_wl (st := top 37) (dvs := []) (k := 13) (kl := 9) (dw := []) (c0 := c_how_many_have) D_how_many_have sc_how_many_have n_how_many_have .nil (fun _ _ => .nil) rfl g_how_many_have GO (.cons (FnW.mono F_long_of (by decide)) (.cons (FnW.mono F_cuts_of (by decide)) (.cons (FnW.mono F_need_number (by decide)) (.cons (FnW.mono F_need_name (by decide)) (.cons (FnW.mono F_need_rules (by decide)) .nil))))) (.cons (FnW.mono F_form (by decide)) .nil) (.cons (HFn.mono H_many_of (by decide)) .nil) rfl (fun _ => sv_mk c rfl ((sv_d c).fact 21 (f := .glo "how_many_have") rfl)) (CsOk.no rfl rfl rfl rfl rfl) (tr_how_many_have c_long_of c_cuts_of c_need_number c_need_name c_need_rules c_form h_many_of) (fun ws _ _ _ q => by rw [List.append_nil]; exact q) b_how_many_have
  obtain ⟨fd_shortest, D_shortest⟩ := (sv_d c).def_ 22 (d := d_shortest) rfl
  have g_shortest := He.glo_ok X G ((sv_d c).fact 22 (f := .glo "shortest") rfl)
  have n_shortest : Binds K fd_shortest ["turn"] [] := FunD.bindsN D_shortest fun _ _ _ _ _ _ us hl => match us, hl with | [_], _ => rfl
  have F_shortest : FnW P w K mg 2 "shortest" 1 c_shortest := fn_w (k := 1) D_shortest sc_shortest n_shortest g_shortest GO (.cons (FnW.mono F_last_of (by decide)) .nil) (tr_shortest c_last_of) b_shortest
  obtain ⟨fd_least_table, D_least_table⟩ := (sv_d c).def_ 23 (d := d_least_table) rfl
  have g_least_table := He.glo_ok X G ((sv_d c).fact 23 (f := .glo "least_table") rfl)
  have n_least_table : Binds K fd_least_table ["rules"] [] := FunD.bindsN D_least_table fun _ _ _ _ _ _ us hl => match us, hl with | [_], _ => rfl
  have F_least_table : FnW P w K mg 14 "least_table" 1 c_least_table := fn_w (k := 13) D_least_table sc_least_table n_least_table g_least_table GO (.cons (FnW.mono F_shortest (by decide)) (.cons (FnW.mono F_long_of (by decide)) (.cons (FnW.mono F_form (by decide)) (.cons (FnW.mono F_cuts_of (by decide)) (.cons (FnW.mono F_need_rules (by decide)) .nil))))) (tr_least_table c_shortest c_long_of c_form c_cuts_of c_need_rules) b_least_table
  obtain ⟨fd_is_row, D_is_row⟩ := (sv_d c).def_ 24 (d := d_is_row) rfl
  have g_is_row := He.glo_ok X G ((sv_d c).fact 24 (f := .glo "is_row") rfl)
  have n_is_row : Binds K fd_is_row ["thing"] [] := FunD.bindsN D_is_row fun _ _ _ _ _ _ us hl => match us, hl with | [_], _ => rfl
  have F_is_row : FnW P w K mg 2 "is_row" 1 c_is_row := fn_w (k := 1) D_is_row sc_is_row n_is_row g_is_row GO (.cons (FnW.mono F_is_name (by decide)) .nil) (tr_is_row c_is_name) b_is_row
  obtain ⟨fd_by_table, D_by_table⟩ := (sv_d c).def_ 25 (d := d_by_table) rfl
  have g_by_table := He.glo_ok X G ((sv_d c).fact 25 (f := .glo "by_table") rfl)
  have n_by_table : Binds K fd_by_table ["table", "number"] [] := FunD.bindsN D_by_table fun _ _ _ _ _ _ us hl => match us, hl with | [_, _], _ => rfl
  have F_by_table : FnW P w K mg 3 "by_table" 2 c_by_table := fn_w (k := 2) D_by_table sc_by_table n_by_table g_by_table GO (.cons (FnW.mono F_last_of (by decide)) (.cons (FnW.mono F_need_number (by decide)) (.cons (FnW.mono F_is_row (by decide)) .nil))) (tr_by_table c_last_of c_need_number c_is_row) b_by_table
  obtain ⟨fd_law_cell, D_law_cell⟩ := (sv_d c).def_ 26 (d := d_law_cell) rfl
  have g_law_cell := He.glo_ok X G ((sv_d c).fact 26 (f := .glo "_law_cell") rfl)
  have n_law_cell : Binds K fd_law_cell ["script", "k"] [] := FunD.bindsN D_law_cell fun _ _ _ _ _ _ us hl => match us, hl with | [_, _], _ => rfl
  have F_law_cell : FnW P w K mg 1 "_law_cell" 2 c_law_cell := fn_w (k := 0) D_law_cell sc_law_cell n_law_cell g_law_cell GO .nil (tr_law_cell) b_law_cell
  obtain ⟨fd_law_drawn, D_law_drawn⟩ := (sv_d c).def_ 27 (d := d_law_drawn) rfl
  have g_law_drawn := He.glo_ok X G ((sv_d c).fact 27 (f := .glo "_law_drawn") rfl)
  have n_law_drawn : Binds K fd_law_drawn ["cell", "k"] [] := FunD.bindsN D_law_drawn fun _ _ _ _ _ _ us hl => match us, hl with | [_, _], _ => rfl
  have F_law_drawn : FnW P w K mg 1 "_law_drawn" 2 c_law_drawn := fn_w (k := 0) D_law_drawn sc_law_drawn n_law_drawn g_law_drawn GO .nil (tr_law_drawn) b_law_drawn
  obtain ⟨fd_law_roll, D_law_roll⟩ := (sv_d c).def_ 28 (d := d_law_roll) rfl
  have g_law_roll := He.glo_ok X G ((sv_d c).fact 28 (f := .glo "_law_roll") rfl)
  have n_law_roll : Binds K fd_law_roll ["dice", "many"] [] := FunD.bindsN D_law_roll fun _ _ _ _ _ _ us hl => match us, hl with | [_, _], _ => rfl
  have F_law_roll : FnW P w K mg 2 "_law_roll" 2 c_law_roll := fn_w (k := 1) D_law_roll sc_law_roll n_law_roll g_law_roll GO (.cons (FnW.mono F_law_drawn (by decide)) .nil) (tr_law_roll c_law_drawn) b_law_roll
  obtain ⟨fd_law_rounds, D_law_rounds⟩ := (sv_d c).def_ 29 (d := d_law_rounds) rfl
  have g_law_rounds := He.glo_ok X G ((sv_d c).fact 29 (f := .glo "_law_rounds") rfl)
  have n_law_rounds : Binds K fd_law_rounds ["script", "most"] [] := FunD.bindsN D_law_rounds fun _ _ _ _ _ _ us hl => match us, hl with | [_, _], _ => rfl
  have F_law_rounds : FnW P w K mg 2 "_law_rounds" 2 c_law_rounds := fn_w (k := 1) D_law_rounds sc_law_rounds n_law_rounds g_law_rounds GO (.cons (FnW.mono F_law_cell (by decide)) .nil) (tr_law_rounds c_law_cell) b_law_rounds
  obtain ⟨fd_law_ranges, D_law_ranges⟩ := (sv_d c).def_ 30 (d := d_law_ranges) rfl
  have g_law_ranges := He.glo_ok X G ((sv_d c).fact 30 (f := .glo "_law_ranges") rfl)
  have n_law_ranges : Binds K fd_law_ranges ["dice", "most"] [] := FunD.bindsN D_law_ranges fun _ _ _ _ _ _ us hl => match us, hl with | [_, _], _ => rfl
  have F_law_ranges : FnW P w K mg 3 "_law_ranges" 2 c_law_ranges := fn_w (k := 2) D_law_ranges sc_law_ranges n_law_ranges g_law_ranges GO (.cons (FnW.mono F_law_roll (by decide)) .nil) (tr_law_ranges c_law_roll) b_law_ranges
  obtain ⟨fd_law_look, D_law_look⟩ := (sv_d c).def_ 31 (d := d_law_look) rfl
  have g_law_look := He.glo_ok X G ((sv_d c).fact 31 (f := .glo "_law_look") rfl)
  have n_law_look : Binds K fd_law_look ["dice", "far"] [] := FunD.bindsN D_law_look fun _ _ _ _ _ _ us hl => match us, hl with | [_, _], _ => rfl
  have F_law_look : FnW P w K mg 4 "_law_look" 2 c_law_lookD := fn_w (k := 3) D_law_look sc_law_look n_law_look g_law_look GO (.cons (FnW.mono F_law_ranges (by decide)) (.cons (FnW.mono F_law_roll (by decide)) .nil)) (tr_law_look c_law_ranges c_law_roll) b_law_lookD
  obtain ⟨fd_law_condition, D_law_condition⟩ := (sv_d c).def_ 32 (d := d_law_condition) rfl
  have g_law_condition := He.glo_ok X G ((sv_d c).fact 32 (f := .glo "_law_condition") rfl)
  have n_law_condition : Binds K fd_law_condition ["dice", "deep", "far"] [] := FunD.bindsN D_law_condition fun _ _ _ _ _ _ us hl => match us, hl with | [_, _, _], _ => rfl
  have FG_law_condition : ∀ n, FnW P w K mg (5 + 1 * n) "_law_condition" 3 (c_law_conditionD n) := by
    intro n
    induction n with
    | zero => exact FnW.imp (fn_no (st := top 50) (k := 4) D_law_condition sc_law_condition n_law_condition g_law_condition) (fun ws m R Z h => by unfold c_law_conditionD at h; split at h <;> first | exact h | (exfalso; omega))
    | succ n ih =>
      have B0 : FnW P w K mg (5 + 1 * n + 1) "_law_condition" 3 (c_law_conditionD (n + 1)) := fn_w (st := top 50) (k := (5 + 1 * n + 0)) D_law_condition sc_law_condition n_law_condition g_law_condition GO (.cons (FnW.mono ih (by omega)) (.cons (FnW.mono F_law_roll (by omega)) (.cons (FnW.mono F_law_look (by omega)) .nil))) (tr_law_condition (c_law_conditionD n) c_law_roll c_law_lookD) (b_law_conditionD n)
      exact FnW.mono B0 (by omega)
  have F_law_condition := fun n => (FG_law_condition n)
  obtain ⟨fd_law_name, D_law_name⟩ := (sv_d c).def_ 33 (d := d_law_name) rfl
  have g_law_name := He.glo_ok X G ((sv_d c).fact 33 (f := .glo "_law_name") rfl)
  have n_law_name : Binds K fd_law_name ["dice"] [] := FunD.bindsN D_law_name fun _ _ _ _ _ _ us hl => match us, hl with | [_], _ => rfl
  have F_law_name : FnW P w K mg 3 "_law_name" 1 c_law_name := fn_w (k := 2) D_law_name sc_law_name n_law_name g_law_name GO (.cons (FnW.mono F_law_roll (by decide)) .nil) (tr_law_name c_law_roll) b_law_name
  obtain ⟨fd_law_rules, D_law_rules⟩ := (sv_d c).def_ 34 (d := d_law_rules) rfl
  have g_law_rules := He.glo_ok X G ((sv_d c).fact 34 (f := .glo "_law_rules") rfl)
  have n_law_rules : Binds K fd_law_rules ["dice", "deep", "far"] [] := FunD.bindsN D_law_rules fun _ _ _ _ _ _ us hl => match us, hl with | [_, _, _], _ => rfl
  have F_law_rules : FnW P w K mg 12 "_law_rules" 3 c_law_rules := fn_w (k := 11) D_law_rules sc_law_rules n_law_rules g_law_rules GO (.cons (FnW.mono F_law_roll (by decide)) (.cons (FnW.mono (F_law_condition 6) (by decide)) (.cons (FnW.mono F_law_name (by decide)) .nil))) (tr_law_rules c_law_roll (c_law_conditionD 6) c_law_name) b_law_rules
  obtain ⟨fd_law, D_law⟩ := (sv_d c).def_ 35 (d := d_law) rfl
  have g_law := He.glo_ok X G ((sv_d c).fact 35 (f := .glo "law") rfl)
  have n_law : Binds K fd_law ["script"] [] := FunD.bindsN D_law fun _ _ _ _ _ _ us hl => match us, hl with | [_], _ => rfl
  cases hfa.symm.trans g_law
  refine ⟨fd_law, fun s v => FunD.bindsA (ps := ["script"]) D_law (fun _ _ _ _ _ _ us hl => match us, hl with | [_], _ => rfl) s [v] rfl, fun base gb => ?_⟩
  exact fn_okw (k := 14) (kl := 0) gb D_law sc_law GO (.cons (FnW.mono F_law_rounds (by decide)) (.cons (FnW.mono F_how_many_have (by decide)) (.cons (FnW.mono F_by_table (by decide)) (.cons (FnW.mono F_form_of (by decide)) (.cons (FnW.mono F_law_roll (by decide)) (.cons (FnW.mono F_parted (by decide)) (.cons (FnW.mono F_least_table (by decide)) (.cons (FnW.mono F_law_rules (by decide)) .nil)))))))) (fun _ _ _ h => by cases h) (fun _ _ _ _ h => by cases h) (fun _ _ _ _ h => by cases h) (fun h => by cases h) (CsOk.no rfl rfl rfl rfl rfl) (tr_law c_law_rounds c_how_many_have c_by_table c_form_of c_law_roll c_parted c_least_table c_law_rules) b_law_k51
end
end FW
open PySem PySem.W PySem.Calls PyProof.Rows
theorem PySem.Challenge.cw_formwords_k51_whole_tables_and_rules_holds : PySem.Challenge.rw_formwords_k51_whole_tables_and_rules.Holds := by
  w_on; o_law
  refine HandSHeadRun.head_any (r := OpenLaw.row PySem.Challenge.rw_formwords_k51_whole_tables_and_rules) (q := view (OpenLaw.row PySem.Challenge.rw_formwords_k51_whole_tables_and_rules).prog [53]) (H := FW.hkV) (ob := FW.obV) (M := 4000) (loose := FW.looseV) (d := HandSHeadRun.topDef (OpenLaw.row PySem.Challenge.rw_formwords_k51_whole_tables_and_rules).prog 53) (kwd := []) FW.obV_eq
    (by kernel_rfl) (fun s => by kernel_rfl) FW.runV (by kernel_rfl) (by kernel_rfl) (by kernel_rfl) (by rfl) (by first | assumption | decide +kernel) (by decide +kernel) ⟨rfl, rfl, rfl, rfl, rfl, by decide +kernel⟩ ?hw ?hc
  case hw => w_witness2
  case hc =>
    refine FW.walk_ofEW (l := PySem.Challenge.rw_formwords_k51_whole_tables_and_rules) (n := 63) (k := 15) (x := "script") rfl (by decide) (by kernel_rfl) ⟨rfl, by decide, by decide⟩ ?F
    intro w mg h Y G
    obtain ⟨K, KX, c⟩ := Y
    have g0 : mg ("law" : PySem.Str) = some (.ref (He.ga K "law")) := He.glo_ok KX G ((FW.sv_d c).fact FW.lawIx (f := .glo "law") rfl)
    obtain ⟨fd, hb, hF⟩ := FW.factsV (P := (PySem.Challenge.rw_formwords_k51_whole_tables_and_rules).prog) (w := w) KX G g0 c
    refine ⟨K, fd, KX, FW.sv_tabs c KX, hb, fun base gb fa hfa => ?_⟩
    have e : (HandSHeadRun.topDef (OpenLaw.row PySem.Challenge.rw_formwords_k51_whole_tables_and_rules).prog 53).name = ("law" : PySem.Str) := by kernel_rfl
    rw [e, g0] at hfa
    cases hfa
    exact hF base gb
