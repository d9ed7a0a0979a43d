import PyProof.Rows.All
import Wide.All
import OpenK.AllK
import Wide.FinOn
import HandS.ForMost
import HandS.SortInts
import HandS.SetFor
import HandS.Strs
import HandS.NamedTupSort
import PyProof.WalksMore
import HandS.Sort
import HandS.Walk
import HandS.IsInst
import HandS.TupAny
import HandS.Style
import HandS.Zip
import HandS.Rev
import HandS.AnyAll
import HandS.Lambda
import KE.GoesEnum
import HandS.Small
import HandS.Iter
import HandS.Dict
import HandS.SortKw
import HandS.GenList
import HandS.EndOwn
import HandS.Conv
import KE.SortData
import HandS.Wide
import HandS.DictComp
import HandS.More
import HandS.Exc
import HandS.ExcOwn
import HandS.TryOnly
import HandS.ExcField
import HandS.ExcIs
import HandS.ExcInit
import KE.KExcIs
import HandS.Property
import KE.DataMinKey
import KE.LtData
import HandS.Deep
import HandS.SetKeys
import HandS.Text
import HandS.RaiseMore
import PySem.Challenge.RW_lostweights_k61_whole_tales
set_option Elab.async false
set_option linter.all false
set_option maxRecDepth 100000
set_option maxHeartbeats 4000000
set_option autoImplicit false
/-! Dy: set(list of ints), sorted of a set, of a tuple, of tuples of ints; sum of a tuple. -/
namespace L2
open PySem PySem.Spec PyProof.Rows
/-- a new empty set -/
abbrev newSetO (w : World) : Obj := { cls := .type "set", dict := none, data := .set #[] 0 (.fresh 0 0 (!w.params.followText "set-order")) }
section
variable {P : Program} {w : World} {A : Around} {E : Value → Shared → Prop} {s : Shared}
set_option maxHeartbeats 8000000 in
theorem set_of_ints {l : Addr} {its : Array Value} (ns : List Int) {Q : Value → Shared → Prop} (hHa : A.handled = none) (hLst : s.heap.IsList l its) (hInts : IntsAre its.toList ns) (hFew : ns.length + 1 < scanBound)
    (h : ∀ (h' : Heap) (tk c : Nat), SetR w h' s.heap.objs.size (fun j => decide (j ∈ ns)) c → c ≤ ns.length → (∀ b o, s.heap.get? b = some o → h'.get? b = some o) → Q (.ref s.heap.objs.size) { s with heap := h', toks := tk }) :
    wpAny (model P w) A (call (.type "set") [.ref l]) Q E s := by
  have hCount : its.size = ns.length := by
    have q := IntsAre.length hInts
    rw [Array.length_toList] at q
    exact q
  obtain ⟨c, tl, hMro⟩ := F.called_set.mro
  have hMade := F.called_set.made
  have hSub := F.called_set.sub
  refine wpAny_call (codeAny_of_tree ?_)
  show wpAny _ _ (callAny (.type "set") _) _ _ _
  refine wpAny_pure ⟨Code.quiet_builtin _ (by decide +kernel), codeAny_builtin F.entry_type_call ?_⟩
  rw [Around.under_plain (weight_type_call_type "set" [.ref l] []) rfl]
  have h1 := F.called_set.notType
  have h2 := F.called_set.canCreate
  have hTc := F.typeCall_set_1 (.ref l)
  repeat (any_goals (first | assumption | wp_step))

  refine codeAny_mono (code_set_led1 (.ref l) (E := E) (Q₁ := fun ob1 ss1 => ob1 = .ref s.heap.objs.size ∧ ss1 = { s with heap := s.heap.push (newSetO w) }) ⟨rfl, rfl⟩) fun rr1 ss1 hr1 => ?_
  cases rr1 with
  | error e => exact hr1
  | ok ff1 =>
    cases ff1 with
    | ret ob1 =>
      obtain ⟨rfl, rfl⟩ := hr1
      have hNew : (s.heap.push (newSetO w)).get? s.heap.objs.size = some (newSetO w) := Heap.get?_push_size _ rfl
      have hTy : Shared.TypeIs { s with heap := s.heap.push (newSetO w) } (.ref s.heap.objs.size) "set" := ⟨_, hNew, rfl⟩
      have hLk := F.called_set.init.lookup
      have hBi := F.called_set.init.bind (.ref s.heap.objs.size)
      repeat (any_goals (first | assumption | wp_step))

      refine codeAny_mono (codeAny_call_builtin (R := wants (fun rr1 ss2 => rr1 = .none ∧ ∃ h' tk c, ss2 = { s with heap := h', toks := tk } ∧ SetR w h' s.heap.objs.size (fun j => decide (j ∈ ns)) c ∧ c ≤ ns.length ∧
          (∀ b o, s.heap.get? b = some o → h'.get? b = some o)) E) F.called_set.init.plain F.entry_set_init (check_set_init_1 hTy ?_)) fun rr2 ss2 hrr2 => ?_
      · obtain ⟨obj0, hOl, hCl, cnt0, hDl⟩ := hLst
        obtain ⟨ocls, odict, odata, oslots⟩ := obj0
        simp only at hCl hDl
        subst hCl; subst hDl
        have hOl2 : (s.heap.push (newSetO w)).get? l = some { cls := .type "list", dict := odict, data := .seq its cnt0, slots := oslots } := Heap.get?_push_of_some _ hOl
        have hSs := F.sub_list_set
        have hSf2 := F.sub_list_frozenset
        have hNd : (Value.type "list" == Value.type "dict") = false := by decide
        have hL1 : (s.heap.push (newSetO w)).IsList l its := ⟨_, hOl2, rfl, cnt0, rfl⟩
        unfold Builtin.«set.__init__» noKeywords Builtin.Frozenset.updateFrom
        generalize hPI : pyIter = PI
        wp_walk
        subst hPI

        refine wpAny_pyIter_list hL1 ?_
        refine wpAny_bind (wpAny_runValue ?_)
        have hLt : l < s.heap.objs.size := Heap.lt_size hOl
        have hHd : A.in1.in1.in1.handled = none := by simp [hHa]
        have hSz1 : (s.heap.push (newSetO w)).objs.size = s.heap.objs.size + 1 := Heap.size_push ..
        have hNeI : l ≠ (s.heap.push (newSetO w)).objs.size := by
          rw [Heap.size_push]; exact Nat.ne_of_lt (Nat.lt_succ_of_lt hLt)
        have hFree : s.heap.objs.size ∉ [(s.heap.push (newSetO w)).objs.size, l] := by
          rw [Heap.size_push]; simp only [List.mem_cons, List.mem_singleton, List.not_mem_nil, or_false, not_or]
          exact ⟨Nat.ne_of_lt (Nat.lt_succ_self _), Nat.ne_of_gt hLt⟩
        have hVal : ∀ (i : Nat) (v : Value), its[i]? = some v → ∃ k t, ns[i]? = some k ∧ v = .int k t := fun i v hv => by
          have hi : i < ns.length := by rw [← hCount]; exact (Array.getElem?_eq_some_iff.mp hv).1
          obtain ⟨t, e⟩ := PyProof.Rows.IntsAre.int_at hInts i v (by rw [Array.getElem?_toList]; exact hv)
          refine ⟨ns[i], t, List.getElem?_eq_getElem hi, ?_⟩
          rw [e, List.getD_eq_getElem?_getD, List.getElem?_eq_getElem hi] <;> rfl
        refine set_update_ints ((Walks.list hHd _ l hNeI its).toS) s.heap.objs.size
          hFree ns hCount hFew hVal (its.size - 0) 0 _ (by omega) (Nat.zero_le _)
          ⟨⟨_, Heap.get?_push_size _ rfl, rfl, rfl⟩, (hL1.push _)⟩ ?hS0 ?hR
        case hS0 =>
          have hGet : ((s.heap.push (newSetO w)).push { cls := .type "list_iterator", data := .fields #[.ref l, .int 0 0] }).get? s.heap.objs.size
              = some (newSetO w) := Heap.get?_push_of_some _ hNew
          exact ⟨0, Nat.le_refl 0, setR_new_at hGet⟩
        case hR =>
          intro s' c' hMv hCc hSs2
          obtain ⟨h', gg, d', tk', os'⟩ := s'
          have eqg : gg = s.gens := hMv.gens
          have eqd : d' = s.drawn := hMv.drawn
          have eqo : os' = s.os := hMv.os
          subst eqg; subst eqd; subst eqo
          show wpAny _ _ _ _ _ _
          refine wpAny_pure ?_
          show wpAny _ _ (ret Value.none) _ _ _
          rw [hCount] at hCc
          refine wpAny_pure ⟨rfl, h', tk', c', rfl, hSs2, hCc, fun b o e => ?_⟩
          have hB0 : b < s.heap.objs.size := Heap.lt_size e
          have hB1 : b ≠ s.heap.objs.size := Nat.ne_of_lt hB0
          have hB2 : b ≠ (s.heap.push (newSetO w)).objs.size := by
            rw [Heap.size_push]; exact Nat.ne_of_lt (Nat.lt_succ_of_lt hB0)
          exact hMv.heap b o (by simp only [List.mem_cons, List.mem_singleton, List.not_mem_nil, or_false, not_or]; exact ⟨hB1, hB2⟩) (Heap.get?_push_of_some _ (Heap.get?_push_of_some _ e))

      · cases rr2 with
        | error e => exact hrr2
        | ok ff2 =>
          cases ff2 with
          | ret rr1 =>
            obtain ⟨rfl, h', tk, c', rfl, hSs2, hCc, hKk⟩ := hrr2
            repeat (any_goals (first | assumption | wp_step))
            exact h _ _ _ hSs2 hCc hKk
          | _ => exact hrr2.elim
    | _ => exact hr1.elim
end
end L2

set_option Elab.async false
set_option linter.all false
set_option maxRecDepth 100000
set_option maxHeartbeats 2000000
set_option autoImplicit false
/-! Dz: sorted of tuples of ints, of a tuple, of a set, at any length; sum of a tuple. -/
namespace L2
open PySem PySem.Spec PyProof.Rows
section
variable {prog : Program} {w : World} {A : Around} {E : Value → Shared → Prop} {s : Shared}
/-- v is a tuple of the ints ns -/
def TupV (h : Heap) (v : Value) (ns : List Int) : Prop := ∃ (a : Addr) (o : Obj) (its : List Value) (c : Nat), v = .ref a ∧ h.get? a = some o ∧ o.cls = .type "tuple" ∧ o.data = .seq its.toArray c ∧ IntsAre its ns
theorem TupV.fun_ {h : Heap} {v : Value} {ns ms : List Int} (x : TupV h v ns) (y : TupV h v ms) : ns = ms := by
  obtain ⟨a, o, its, c, rfl, h1, _, h3, h4⟩ := x
  obtain ⟨a2, o2, its2, c2, e, g1, _, g3, g4⟩ := y
  cases e
  rw [h1] at g1
  cases g1
  rw [h3] at g3
  injection g3 with g5 _
  have e3 : its = its2 := by simpa using congrArg Array.toList g5
  subst e3
  rw [← SrtO.iv_ints h4, ← SrtO.iv_ints g4]
theorem TupV.keep {h h' : Heap} {v : Value} {ns : List Int} (x : TupV h v ns) (k : ∀ b o, h.get? b = some o → o.cls = .type "tuple" → h'.get? b = some o) : TupV h' v ns := by
  obtain ⟨a, o, its, c, rfl, h1, h2, h3, h4⟩ := x
  exact ⟨a, o, its, c, rfl, k a o h1 h2, h2, h3, h4⟩
open Classical in
/-- the ints of a tuple -/
noncomputable def intsOf (h : Heap) (v : Value) : List Int := if q : ∃ ns, TupV h v ns then q.choose else []
theorem intsOf_eq {h : Heap} {v : Value} {ns : List Int} (x : TupV h v ns) : intsOf h v = ns := by
  have q : ∃ ns, TupV h v ns := ⟨ns, x⟩
  unfold intsOf
  rw [dif_pos q]
  exact q.choose_spec.fun_ x
/-- the walk of two tuples of ints -/
theorem lex_run {fl : Bool} {fin : Bool} {Q : Bool → Shared → Prop} : ∀ {us vs : List Value} {ns ms : List Int} (i : Nat), IntsAre us ns → IntsAre vs ms → fin = decide (ns.length < ms.length) → Q (HT.lexLt ns ms) s →
    PySem.W.KatLex prog w A fl fin Q (us.zip vs) i s
  | _, _, _, _, i, .nil, .nil, hf, q => by
    subst hf
    exact q
  | _, _, _, _, i, .nil, .cons (ns := ms) m t r, hf, q => by
    have e : decide (([] : List Int).length < (m :: ms).length) = true := by simp
    rw [e] at hf
    subst hf
    exact q
  | _, _, _, _, i, .cons n t r, .nil, hf, q => by
    subst hf
    exact q
  | _, _, _, _, i, .cons (ns := ns) n t r, .cons (ns := ms) m u r2, hf, q => by
    rw [HT.lexLt_cons] at q
    refine PySem.W.kat_cons (SeqAt.EqAt.int_int n t m u prog w _ _ ?_)
    refine PySem.W.kat_go (fun e1 => ?_) (fun e1 => ?_)
    · have ex : n = m := by simpa using e1
      rw [if_pos ex] at q
      exact PySem.W.kat_yes (lex_run (i + 1) r r2 (by rw [hf, List.length_cons, List.length_cons]; exact decide_eq_decide.mpr (by omega)) q)
    · have ex : ¬ n = m := by simpa using e1
      rw [if_neg ex] at q
      exact PySem.W.kat_no (TS.oneLt_ints _ q)
theorem tup_cmp {vs : List Value} (fl : Bool) (hp : ∀ v ∈ vs, ∃ ns, TupV s.heap v ns) : SrtO.Cmp prog w A s (tuples' fl) (fun p => p.1 ∈ vs) (SrtO.lt2 fun v u => HT.lexLt (intsOf s.heap v) (intsOf s.heap u)) := by
  intro p q m1 m2
  obtain ⟨ns, x⟩ := hp _ m1
  obtain ⟨ms, y⟩ := hp _ m2
  show wpAny (model prog w) A (keyLt' (tuples' fl) p.1 q.1) (fun r s' => s' = s ∧ r = HT.lexLt (intsOf s.heap p.1) (intsOf s.heap q.1)) (fun _ _ => False) s
  rw [intsOf_eq x, intsOf_eq y]
  obtain ⟨a, o, its, c, e1, h1, _, h3, h4⟩ := x
  obtain ⟨a2, o2, its2, c2, e2, g1, _, g3, g4⟩ := y
  rw [e1, e2]
  refine PySem.W.kat_lt h1 h3 g1 g3 ?_
  have l1 := IntsAre.length h4
  have l2 := IntsAre.length g4
  exact lex_run 0 h4 g4 (by simp [l1, l2]) ⟨rfl, rfl⟩
theorem firsts_ints {h : Heap} : ∀ {vs : List Value}, (∀ v ∈ vs, ∃ ns, TupV h v ns ∧ ns ≠ []) → ∃ fs : List Value, PySem.W.KatTups h vs fs ∧ fs.length = vs.length ∧ ∀ f ∈ fs, ∃ (n : Int) (t : Tok), f = .int n t
  | [], _ => ⟨[], .nil, rfl, fun f hf => by cases hf⟩
  | v :: vs, hv => by
    obtain ⟨fs, h1, h2, h3⟩ := firsts_ints (vs := vs) fun u hu => hv u (List.mem_cons_of_mem _ hu)
    obtain ⟨ns, ⟨a, o, its, c, rfl, g1, g2, g3, g4⟩, hne⟩ := hv v List.mem_cons_self
    cases g4 with
    | nil => exact absurd rfl hne
    | cons n t r =>
      refine ⟨.int n t :: fs, .cons g1 g2 g3 (by simp) h1, by simp [h2], fun f hf => ?_⟩
      rcases List.mem_cons.mp hf with e | e
      · exact ⟨n, t, e⟩
      · exact h3 f e
theorem tup_sortable {a : Addr} {vs : List Value} (h2 : 2 ≤ vs.length) (hp : ∀ v ∈ vs, ∃ ns, TupV s.heap v ns ∧ ns ≠ []) (ha : ∀ o, s.heap.get? a = some o → o.cls ≠ .type "tuple") :
    SrtO.SortableO prog w A s a vs fun v u => HT.lexLt (intsOf s.heap v) (intsOf s.heap u) := by
  intro h' keep
  have kk : ∀ b o, s.heap.get? b = some o → o.cls = .type "tuple" → h'.get? b = some o := fun b o e c => keep b o (fun z => by subst z; exact ha o e c) e
  have hp' : ∀ v ∈ vs, ∃ ns, TupV h' v ns ∧ ns ≠ [] := fun v hm => let ⟨ns, x, n⟩ := hp v hm; ⟨ns, x.keep kk, n⟩
  obtain ⟨fs, h1, hl, h3⟩ := firsts_ints hp'
  refine ⟨tuples' true, fun Q E hq => ?_, ?_⟩
  · refine PySem.W.kat_kind (T := .type "int") h1 (by omega) (fun f hm => ?_) (by rfl) ?_
    · obtain ⟨x, t, rfl⟩ := h3 f hm
      exact PySem.W.Looks.now
    · have e : (Value.type "int" != Value.type "tuple") = true := by decide +kernel
      rw [e]
      exact hq
  · have c := tup_cmp (prog := prog) (w := w) (A := A) (s := { s with heap := h' }) true fun v hm => let ⟨ns, x, _⟩ := hp' v hm; ⟨ns, x⟩
    intro p q m1 m2
    obtain ⟨ns, x, _⟩ := hp _ m1
    obtain ⟨ms, y, _⟩ := hp _ m2
    have := c p q m1 m2
    have e : ∀ v, v ∈ vs → intsOf h' v = intsOf s.heap v := fun v hm => by
      obtain ⟨ns, x, _⟩ := hp v hm
      rw [intsOf_eq x, intsOf_eq (x.keep kk)]
    show wpAny _ _ _ (fun r s' => s' = _ ∧ r = HT.lexLt (intsOf s.heap p.1) (intsOf s.heap q.1)) _ _
    rw [← e _ m1, ← e _ m2]
    exact this
end

/-! ### as rules -/
/-- each of xs is a tuple of the ints at its place in ts -/
def TupsV (K : PySem.W.Frag) (H : Hp) (xs : List V) (ts : List (List Int)) : Prop := Paired (fun x ns => ∃ t, x = V.ref t ∧ SqT K H t (ns.map V.int)) xs ts
/-- sorted(xs), tuples of ints, none empty -/
def rSortedLT (K : PySem.W.Frag) : List V → Hp → VK → Prop := fun vs H Q => ∃ (a : Addr) (xs : List V) (ts : List (List Int)) (R : V → List Int → Prop), vs = [V.ref a] ∧ SqL K H a xs ∧ Paired R xs ts ∧ (∀ v t, R v t → ∃ q, v = V.ref q ∧ SqT K H q (t.map V.int)) ∧ (xs.length < 2 ∨ ∀ t ∈ ts, t ≠ []) ∧
  ∀ (ys : List V) (us : List (List Int)) (p : Addr), Paired R ys us → us.Perm ts → us.Pairwise (fun x y => HT.lexLt y x = false) → H p = none → Q (.ref p) (upd H p (.lst ys))
def backO : Value → V
  | .ref a => .ref a
  | _ => .non
section
variable {X : Cx}
theorem paired_mem {α β : Type} {R : α → β → Prop} : ∀ {l : List α} {m : List β}, Paired R l m → ∀ x ∈ l, ∃ y ∈ m, R x y
  | _, _, .nil, x, h => by cases h
  | _, _, .cons r t, x, h => by
    rcases List.mem_cons.mp h with e | e
    · subst e; exact ⟨_, List.mem_cons_self, r⟩
    · obtain ⟨y, h1, h2⟩ := paired_mem t x e; exact ⟨y, List.mem_cons_of_mem _ h1, h2⟩
theorem tupV_of {pins : List (Addr × Obj)} {σ : St} {H : Hp} {s : Shared} (I : Inv X pins σ H s) {t : Addr} {ns : List Int} (h : SqT X.K H t (ns.map V.int)) : TupV s.heap (.ref t) ns := by
  obtain ⟨its, rv, ⟨o, h1, h2, c, h3⟩, _⟩ := I.tuple h
  exact ⟨t, o, its, c, rfl, h1, h2, h3, rv.ints⟩
theorem refs_of_tups {K : PySem.W.Frag} {H : Hp} : ∀ {xs : List V} {ts : List (List Int)} {its : List Value}, TupsV K H xs ts → Vals xs its → xs = its.map backO ∧ ∀ u ∈ its, ∃ a, u = Value.ref a
  | _, _, _, .nil, .nil => ⟨rfl, fun u h => by cases h⟩
  | _, _, _, .cons r t, .cons rv tv => by
    obtain ⟨a, rfl, _⟩ := r
    cases rv
    obtain ⟨h1, h2⟩ := refs_of_tups t tv
    refine ⟨by rw [List.map_cons, ← h1]; rfl, fun u hu => ?_⟩
    rcases List.mem_cons.mp hu with e | e
    · exact ⟨a, e⟩
    · exact h2 u e
theorem valsRefsK : ∀ {out : List Value}, (∀ u ∈ out, ∃ a, u = Value.ref a) → Vals (out.map backO) out
  | [], _ => .nil
  | u :: out, h => by
    obtain ⟨a, rfl⟩ := h u List.mem_cons_self
    exact .cons rfl (valsRefsK fun v hv => h v (List.mem_cons_of_mem _ hv))
theorem map_ints {K : PySem.W.Frag} {H : Hp} {h : Heap} (f : ∀ t ns, SqT K H t (ns.map V.int) → TupV h (.ref t) ns) : ∀ {xs : List V} {ts : List (List Int)} {its : List Value}, TupsV K H xs ts → Vals xs its → its.map (intsOf h) = ts
  | _, _, _, .nil, .nil => rfl
  | _, _, _, .cons r t, .cons rv tv => by
    obtain ⟨a, rfl, hs⟩ := r
    cases rv
    rw [List.map_cons, map_ints f t tv, intsOf_eq (f a _ hs)]
theorem tups_of {K : PySem.W.Frag} {H : Hp} {h : Heap} : ∀ {out : List Value}, (∀ u ∈ out, ∃ t, u = .ref t ∧ SqT K H t ((intsOf h u).map V.int)) → TupsV K H (out.map backO) (out.map (intsOf h))
  | [], _ => .nil
  | u :: out, hh => by
    obtain ⟨t, e, h1⟩ := hh u List.mem_cons_self
    refine .cons ⟨t, ?_, h1⟩ (tups_of fun v hv => hh v (List.mem_cons_of_mem _ hv))
    rw [e]; rfl
theorem paired_mono {α β : Type} {R R' : α → β → Prop} (h : ∀ x y, R x y → R' x y) : ∀ {l : List α} {m : List β}, Paired R l m → Paired R' l m
  | _, _, .nil => .nil
  | _, _, .cons a t => .cons (h _ _ a) (paired_mono h t)
theorem paired_out {R : V → List Int → Prop} {f : Value → List Int} : ∀ {out : List Value}, (∀ u ∈ out, R (backO u) (f u)) → Paired R (out.map backO) (out.map f)
  | [], _ => .nil
  | u :: _, h => .cons (h u List.mem_cons_self) (paired_out fun v hv => h v (List.mem_cons_of_mem _ hv))
theorem cr_sortedLT : CallR X (.builtin "sorted") (rSortedLT X.K) := by
  intro pins s σ H vs us Q I r h
  obtain ⟨a, xs, ts, R, rfl, hs, hP, hR, hne, q⟩ := h
  have ht : TupsV X.K H xs ts := paired_mono hR hP
  obtain ⟨its, rv, hl, hz⟩ := I.list hs
  rw [Vals.ref1 r]
  obtain ⟨e1, e2⟩ := refs_of_tups ht rv
  have hlen := rv.length
  have hall : ∀ u ∈ its, ∃ t ns, u = .ref t ∧ SqT X.K H t (ns.map V.int) ∧ ns ∈ ts := fun u hu => by
    obtain ⟨b, rfl⟩ := e2 u hu
    have hm : V.ref b ∈ xs := by rw [e1]; exact List.mem_map.mpr ⟨_, hu, rfl⟩
    obtain ⟨ns, hns, t, et, hst⟩ := paired_mem ht _ hm
    cases et
    exact ⟨b, ns, rfl, hst, hns⟩
  refine SrtO.sorted_ord (NtL.swo_lexL (intsOf s.heap)) hl.isList (by omega) (fun h2 h₁ a' ha' kk => ?_) fun out h1 h2 => ?_
  · have hp : ∀ v ∈ its, ∃ ns, TupV h₁ v ns ∧ ns ≠ [] := fun v hv => by
      obtain ⟨t, ns, rfl, hst, hns⟩ := hall v hv
      refine ⟨ns, (tupV_of I hst).keep fun b o e _ => (kk b o e).2, ?_⟩
      rcases hne with z | z
      · exact absurd h2 (by omega)
      · exact z ns hns
    have so := tup_sortable (prog := X.prog) (w := X.w) (A := X.A.in1.in1) (s := { s with heap := h₁ }) (a := a') h2 hp fun o e => by
      have e' : some o = some (seqObj "list" its.toArray 0) := e.symm.trans ha'
      cases e'
      intro c
      exact absurd (Value.type.inj c) (by decide)
    intro h' keep
    obtain ⟨κ, k1, k2⟩ := so h' keep
    refine ⟨κ, k1, fun p q m1 m2 => ?_⟩
    have := k2 p q m1 m2
    have e : ∀ v, v ∈ its → intsOf h₁ v = intsOf s.heap v := fun v hv => by
      obtain ⟨t, ns, rfl, hst, _⟩ := hall v hv
      rw [intsOf_eq (tupV_of I hst), intsOf_eq ((tupV_of I hst).keep fun b o e _ => (kk b o e).2)]
    show wpAny _ _ _ (fun r s' => s' = _ ∧ r = HT.lexLt (intsOf s.heap p.1) (intsOf s.heap q.1)) _ _
    rw [← e _ m1, ← e _ m2]
    exact this
  · have hmem : ∀ u ∈ out, u ∈ its := fun u hu => h2.perm.mem_iff.mp hu
    have h3 : ∀ u ∈ out, ∃ a, u = Value.ref a := fun u hu => e2 u (hmem u hu)
    obtain ⟨ep, he'⟩ := PyProof.Rows.sortedAll_at s.heap its out.toArray
    have hsz : (out.map backO).length ≤ sizeLine := by rw [List.length_map, h2.len]; omega
    have hT : Paired R (out.map backO) (out.map (intsOf s.heap)) := paired_out fun u hu => by
      have hm : backO u ∈ xs := by rw [e1]; exact List.mem_map.mpr ⟨u, hmem u hu, rfl⟩
      obtain ⟨ns, _, hr⟩ := paired_mem hP _ hm
      obtain ⟨b, rfl⟩ := h3 u hu
      obtain ⟨t, et, hst⟩ := hR _ _ hr
      cases et
      rw [intsOf_eq (tupV_of I hst)]
      exact hr
    refine ⟨.ref _, upd H (s.heap.objs.size + 1) (.lst (out.map backO)), I.laid (t' := s.toks) (fun _ _ => PyProof.Rows.sortedAll_old) (Nat.le_succ _) ⟨hsz, out, ep, valsRefsK h3, he'⟩, rfl, q _ _ _ hT ?_ ?_ (I.hok.fresh (Nat.le_succ _))⟩
    · have := h2.perm.map (intsOf s.heap)
      rw [map_ints (fun t ns => tupV_of I) ht rv] at this
      exact this
    · exact List.pairwise_map.mpr (h1.imp fun {x y} z => z)
end
/-! ### a tuple collected; sorted and sum of it -/
section
variable {prog : Program} {w : World} {A : Around} {E : Value → Shared → Prop} {s : Shared}
theorem collect_tup {l : Addr} {us : List Value} {Q : List Value → Shared → Prop} (ht : IsTup s.heap l us.toArray) (hf : us.length ≤ sizeLine)
    (h : Q us { s with heap := (s.heap.push (seqObj "list" #[] 0)).update s.heap.objs.size (Obj.mapSeq (· ++ us.toArray)) }) : wpAny (model prog w) A (collect (.ref l)) Q E s := by
  obtain ⟨o, ho, hc, n, hd⟩ := id ht
  unfold collect
  refine wpAny_bind (wpAny_runValue (codeAny_builtin entry_proto_collect' ?_))
  show wpAny _ _ (do again (.builtin "list.__iadd__" ⟨[← newList [], .ref l], []⟩)) _ _ s
  refine wpAny_bind (wpAny_newList (wpAny_pure ⟨Code.quiet_builtin _ (by decide +kernel), codeAny_builtin entry_list_iadd' ?_⟩))
  show wpAny _ _ (Builtin.List.listExtendWith (.ref s.heap.objs.size) (.ref l) (.ref s.heap.objs.size)) _ _ { s with heap := s.heap.push (seqObj "list" #[] 0) }
  unfold Builtin.List.listExtendWith
  have hoP : (s.heap.push (seqObj "list" #[] 0)).get? l = some o := Heap.get?_push_of_some _ ho
  refine wpAny_bind (wpAny_typeOf (T := "tuple") ⟨o, hoP, hc⟩ ?_)
  have tt : (Value.type "tuple" == Value.type "tuple") = true := by rfl
  rw [if_pos (by rw [tt]; simp)]
  refine wpAny_bind (listItems_at hoP hd ?_)
  refine wpAny_bind (listItems_at (xs := #[]) (n := 0) (Heap.get?_push_size _ rfl) rfl ?_)
  rw [if_neg (by simp)]
  refine wpAny_bind (listUpdate_at (xs := #[]) (n := 0) (Heap.get?_push_size _ rfl) rfl ?_ (Nat.zero_le _) (by show (#[] ++ us.toArray).size ≤ sizeLine + 1; simp only [Array.size_append, List.size_toArray, List.length_nil]; omega))
  refine wpAny_pure ?_
  show wpAny (model prog w) A (do
      let ob ← load s.heap.objs.size
      match ob.data with
      | .seq ys _ => pure ys.toList
      | _ => unsupported "internal:collect") Q E { s with heap := (s.heap.push (seqObj "list" #[] 0)).update s.heap.objs.size (Obj.mapSeq (· ++ us.toArray)) }
  refine wpAny_bind (wpAny_load (get?_update_seq (Heap.get?_push_size _ rfl) _) ?_)
  show wpAny _ _ (pure ((#[] : Array Value) ++ us.toArray).toList) Q E _
  rw [show ((#[] : Array Value) ++ us.toArray).toList = us by simp]
  exact wpAny_pure h
/-- sorted of what collects to us -/
theorem sorted_col {x : Value} {us : List Value} {lt2v : Value → Value → Bool} {Q : Value → Shared → Prop} (W : SrtO.Swo lt2v) (hz : us.length ≤ sizeLine)
    (hcol : ∀ Q' : List Value → Shared → Prop, Q' us { s with heap := (s.heap.push (seqObj "list" #[] 0)).update s.heap.objs.size (Obj.mapSeq (· ++ us.toArray)) } → wpAny (model prog w) A.in1 (collect x) Q' E s)
    (hS : 2 ≤ us.length → ∀ (h1 : Heap) (a : Addr), SrtO.SortableO prog w A.in1.in1 { s with heap := h1 } a us lt2v)
    (h : ∀ out : List Value, SrtO.Srtd lt2v out → SrtO.Stb lt2v out us → Q (.ref (s.heap.objs.size + 1)) { s with heap := sortedAll s.heap us out.toArray }) : wpAny (model prog w) A (call (.builtin "sorted") [x]) Q E s := by
  refine Calls.call_function_entry kind_sorted plain_sorted entry_sorted (args_sorted1 _) ?_
  unfold Builtin.«sorted»
  refine wpAny_bind (m := checkCount "sorted" 1 1 _) (wpAny_pure ?_)
  refine wpAny_bind (hcol _ ?_)
  refine wpAny_bind (wpAny_newList ?_ hz)
  have size1 : ((s.heap.push (seqObj "list" #[] 0)).update s.heap.objs.size (Obj.mapSeq (· ++ us.toArray))).objs.size = s.heap.objs.size + 1 := by
    rw [Heap.size_update, size_push']
  have obj1 : (((s.heap.push (seqObj "list" #[] 0)).update s.heap.objs.size (Obj.mapSeq (· ++ us.toArray))).push (seqObj "list" us.toArray 0)).get? (s.heap.objs.size + 1) = some (seqObj "list" us.toArray 0) := by
    rw [← size1]; exact Heap.get?_push_size _ rfl
  show wpAny _ _ _ _ _ { s with heap := ((s.heap.push (seqObj "list" #[] 0)).update s.heap.objs.size (Obj.mapSeq (· ++ us.toArray))).push (seqObj "list" us.toArray 0) }
  rw [size1]
  refine wpAny_bind (wpAny_holding (wpAny_call_entry slot_list_sort ⟨_, obj1, rfl⟩ entry_list_sort (SrtO.list_sort_ord W obj1 hz (fun h2 => hS h2 _ _) fun out hs hb => ⟨_, rfl, ?_⟩) (args_list_sort _)))
  exact wpAny_pure ⟨_, rfl, h out hs hb⟩
theorem preSum_take {ns : List Int} {val : Nat → Int} (hv : ∀ i, i < ns.length → val i = ns.getD i 0) : ∀ k, k ≤ ns.length → preSum val k = (ns.take k).sum
  | 0, _ => by simp [preSum]
  | k + 1, hk => by
    have hlt : k < ns.length := by omega
    show preSum val k + val k = _
    have e : ns.take (k + 1) = ns.take k ++ [ns[k]] := by rw [List.take_succ, List.getElem?_eq_getElem hlt]; rfl
    rw [preSum_take hv k (by omega), hv k hlt, e, List.sum_append, List.getD_eq_getElem?_getD, List.getElem?_eq_getElem hlt]
    simp
end
section
variable {X : Cx}
/-- sorted(t), a tuple of ints -/
def rSortedTI (K : PySem.W.Frag) : List V → Hp → VK → Prop := fun vs H Q => ∃ (a : Addr) (ns : List Int), vs = [V.ref a] ∧ SqT K H a (ns.map V.int) ∧
  ∀ (ms : List Int) (p : Addr), ms.Perm ns → ms.Pairwise (· ≤ ·) → H p = none → Q (.ref p) (upd H p (.lst (ms.map V.int)))
theorem cr_sortedTI : CallR X (.builtin "sorted") (rSortedTI X.K) := by
  intro pins s σ H vs us Q I r h
  obtain ⟨a, ns, rfl, hs, q⟩ := h
  obtain ⟨its, rv, ht, hz⟩ := I.tuple hs
  rw [Vals.ref1 r]
  have hi := rv.ints
  have hlen := rv.length
  refine sorted_col SrtO.swo_int (by omega) (fun Q' h' => collect_tup ht (by omega) h') (fun h2 h1 a' => SrtO.ints_sortable hi h2) fun out h1 h2 => ?_
  obtain ⟨k1, k2, k3⟩ := SrtO.ints_out hi h1 h2
  obtain ⟨ep, he⟩ := PyProof.Rows.sortedAll_at s.heap its out.toArray
  have hfit : ((out.map SrtO.iv).map V.int).length ≤ sizeLine := by
    rw [List.length_map, k2.length_eq]
    rw [List.length_map] at hz
    exact hz
  exact ⟨.ref _, upd H (s.heap.objs.size + 1) (.lst ((out.map SrtO.iv).map V.int)), I.laid (t' := s.toks) (fun _ _ => PyProof.Rows.sortedAll_old) (Nat.le_succ _) ⟨hfit, out, ep, vals_of_ints k1, he⟩, rfl, q _ _ k2 k3 (I.hok.fresh (Nat.le_succ _))⟩
/-- sum(t), a tuple of ints that are not great -/
def rSumT (K : PySem.W.Frag) : List V → Hp → VK → Prop := fun vs H Q => ∃ (a : Addr) (ns : List Int), vs = [V.ref a] ∧ SqT K H a (ns.map V.int) ∧ (∀ k, k ≤ ns.length → InLong ((ns.take k).sum)) ∧ (∀ n ∈ ns, InLong n) ∧ Q (.int ns.sum) H
theorem cr_sumT (hc : X.calm = true) : CallR X (.builtin "sum") (rSumT X.K) := by
  intro pins s σ H vs us Q I r h
  obtain ⟨a, ns, rfl, hs, hf, hf2, q⟩ := h
  obtain ⟨its, rv, ht, hz⟩ := I.tuple hs
  rw [Vals.ref1 r]
  have hi := rv.ints
  have hlen := IntsAre.length hi
  have hne : a ≠ s.heap.objs.size := fun e => by
    obtain ⟨o, ho, _⟩ := ht
    rw [e] at ho
    exact absurd (Heap.lt_size ho) (Nat.lt_irrefl _)
  refine call_sum_walk (iter_tuple ht ?_)
  have hT2 : (s.heap.push { cls := .type "tuple_iterator", data := .fields #[.ref a, .int 0 0] }).IsTuple a its.toArray := by
    obtain ⟨o, ho, c, n, d⟩ := ht
    exact ⟨o, Heap.get?_push_of_some _ ho, c, n, d⟩
  have hv : ∀ i, i < ns.length → (fun i => ns.getD i 0) i = ns.getD i 0 := fun _ _ => rfl
  refine ⟨s.heap.objs.size, _, _, _, _, _, fun i => ns.getD i 0, rfl, Walks.tuple (A := X.A.in1) (I.ok.hd hc) s.heap.objs.size a hne its.toArray, ⟨⟨_, Heap.get?_push_size _ rfl, rfl, rfl⟩, hT2⟩, fun b hb => ?_, fun i v hiv => ?_, fun j hj => ?_, fun h' tk t' hk => ?_⟩
  · rw [Heap.size_push]
    rcases List.mem_cons.mp hb with e | e
    · rw [e]; exact Nat.lt_succ_self _
    · rw [List.mem_singleton.mp e]
      obtain ⟨o, ho, _⟩ := ht
      exact Nat.lt_succ_of_lt (Heap.lt_size ho)
  · exact PyProof.Rows.IntsAre.int_at hi i v (by simpa using hiv)
  · have hj' : j < ns.length := by simpa [hlen] using hj
    refine ⟨hf2 _ ?_, ?_⟩
    · show ns.getD j 0 ∈ ns
      rw [List.getD_eq_getElem?_getD, List.getElem?_eq_getElem hj']
      exact List.getElem_mem hj'
    · rw [preSum_take hv _ hj']; exact hf _ hj'
  · have hsz : its.toArray.size = ns.length := by simp [hlen]
    rw [hsz, preSum_take hv _ (Nat.le_refl _), List.take_length]
    refine ⟨.int _, H, I.kept fun b o eo => hk b o (fun hm => ?_) (Heap.get?_push_of_some _ eo), ⟨_, rfl⟩, q⟩
    rw [List.mem_singleton.mp hm] at eo
    exact absurd (Heap.lt_size eo) (Nat.lt_irrefl _)
/-- set(xs), a list of ints -/
def rSetLI (K : PySem.W.Frag) (w : World) : List V → Hp → VK → Prop := fun vs H Q => ∃ (a : Addr) (ns : List Int), vs = [V.ref a] ∧ SqL K H a (ns.map V.int) ∧ ns.length ≤ 4000 ∧
  ∀ (p : Addr) (c : Nat), c ≤ ns.length → H p = none → Q (.ref p) (upd H p (SetO w p (fun j => decide (j ∈ ns)) c))
theorem cr_setL (hc : X.calm = true) : CallR X (.type "set") (rSetLI X.K X.w) := by
  intro pins s σ H vs us Q I r h
  obtain ⟨a, ns, rfl, hs, hz, q⟩ := h
  obtain ⟨its, rv, hl, _⟩ := I.list hs
  rw [Vals.ref1 r]
  refine set_of_ints (w := X.w) (P := X.prog) ns (I.ok.hd hc) hl.isList rv.ints (by unfold scanBound; omega) fun h' tk c R1 hcn k => ?_
  exact ⟨.ref _, upd H s.heap.objs.size (SetO X.w s.heap.objs.size (fun j => decide (j ∈ ns)) c), I.laid (t' := tk) k (Nat.le_refl _) (setO_new R1), rfl, q _ c hcn (I.hok.fresh (Nat.le_refl _))⟩
/-- sorted of a set of ints, ascending -/
def rSortSet (w : World) : List V → Hp → VK → Prop := fun vs H Q => ∃ (a : Addr) (S : Int → Bool) (n : Nat), vs = [V.ref a] ∧ H a = some (SetO w a S n) ∧ n ≤ 1000000 ∧
  ∀ (ms : List Int) (p : Addr), ms.Pairwise (· < ·) → (∀ k : Int, k ∈ ms ↔ S k = true) → H p = none → Q (.ref p) (upd H p (.lst (ms.map V.int)))
theorem cr_sortSet (hc : X.calm = true) : CallR X (.builtin "sorted") (rSortSet X.w) := by
  intro pins s σ H vs us Q I r h
  obtain ⟨a, S, n, rfl, ha, hn, q⟩ := h
  obtain ⟨o, es, ep, t, ho, hex, hd, g, nd, hm, hb, hf, hcount, hr, hl⟩ := setO_get I ha
  rw [Vals.ref1 r]
  refine Calls.call_function_entry kind_sorted plain_sorted entry_sorted (args_sorted1 _) ?_
  unfold Builtin.«sorted»
  refine wpAny_bind (m := checkCount "sorted" 1 1 _) (wpAny_pure ?_)
  refine wpAny_bind (collect_set (A := X.A.in1) (I.ok.hd hc) ⟨o, ho, hex.1, hd⟩ hf hb hr hl fun s1 us1 k1 hz g1 o1 pm => ?_)
  have len1 : us1.length = n := by rw [pm.length_eq, List.length_map, Array.length_toList]; exact hcount
  have fit : us1.length ≤ sizeLine := by rw [len1, sizeLine_eq]; omega
  have ints1 : IntsAre us1 (us1.map Builtin.Re.reRawOf) := ints_of us1 fun v hv => by
    obtain ⟨e, he, eq1⟩ := List.mem_map.mp (pm.mem_iff.mp hv)
    obtain ⟨k, tk, h1, _⟩ := g e he
    exact ⟨k, tk, by rw [← eq1]; exact h1⟩
  have perm1 : (us1.map Builtin.Re.reRawOf).Perm (es.toList.map keyOf) := by
    have z := pm.map Builtin.Re.reRawOf
    rw [List.map_map] at z
    exact z
  refine wpAny_bind (wpAny_newList ?_ fit)
  have obj1 : (s1.heap.push (seqObj "list" us1.toArray 0)).get? s1.heap.objs.size = some (seqObj "list" us1.toArray 0) := Heap.get?_push_size _ rfl
  refine wpAny_bind (wpAny_holding (wpAny_call_entry slot_list_sort ⟨_, obj1, rfl⟩ entry_list_sort (SrtO.list_sort_ord SrtO.swo_int obj1 fit (fun h2 => SrtO.ints_sortable ints1 h2) fun out h1 h2 => ⟨_, rfl, ?_⟩) (args_list_sort _)))
  obtain ⟨a1, a2, a3⟩ := SrtO.ints_out ints1 h1 h2
  obtain ⟨cc, hcc⟩ := sortedHeap_at (vs := us1) (out := out.toArray) obj1
  have pn : (out.map SrtO.iv).Perm (es.toList.map keyOf) := a2.trans perm1
  have keepAll : ∀ b u, s.heap.get? b = some u → (sortedHeap (s1.heap.push (seqObj "list" us1.toArray 0)) s1.heap.objs.size us1 out.toArray).get? b = some u := fun b u e => by
    have q1 := k1 b u e
    have hlt := Heap.lt_size q1
    rw [sortedHeap_old (Nat.ne_of_lt hlt) (by rw [size_push']; exact Nat.lt_succ_of_lt hlt)]
    exact Heap.get?_push_of_some _ q1
  have freeP : H s1.heap.objs.size = none := I.hok.fresh hz
  have fitO : ((out.map SrtO.iv).map V.int).length ≤ sizeLine := by rw [List.length_map, a2.length_eq, List.length_map]; exact fit
  have hok2 := I.hok.laid (a := s1.heap.objs.size) (o := .lst ((out.map SrtO.iv).map V.int)) keepAll hz ⟨fitO, out, cc, vals_of_ints a1, hcc⟩
  refine wpAny_pure ⟨_, rfl, .ref s1.heap.objs.size, upd H s1.heap.objs.size (.lst ((out.map SrtO.iv).map V.int)), ?_, rfl, q _ _ (lt_of_le_nodup _ a3 (pn.nodup_iff.mpr nd)) (fun k => by rw [pn.mem_iff, ← hm k]) freeP⟩
  have J := I.call (h' := sortedHeap (s1.heap.push (seqObj "list" us1.toArray 0)) s1.heap.objs.size us1 out.toArray) (g' := s1.gens) (d' := s1.drawn) (t' := s1.toks) (ch := []) (Un.laid keepAll hz freeP) hok2 (by rw [g1]; exact I.bare) (fun _ z => nomatch z)
  have es1 : ({ s1 with heap := sortedHeap (s1.heap.push (seqObj "list" us1.toArray 0)) s1.heap.objs.size us1 out.toArray } : Shared) = { s with heap := sortedHeap (s1.heap.push (seqObj "list" us1.toArray 0)) s1.heap.objs.size us1 out.toArray, gens := s1.gens, drawn := s1.drawn, toks := s1.toks } := by
    cases s1; cases s; cases o1; rfl
  show Inv X pins σ _ { s1 with heap := sortedHeap (s1.heap.push (seqObj "list" us1.toArray 0)) s1.heap.objs.size us1 out.toArray }
  rw [es1]
  exact J
end
end L2

set_option Elab.async false
set_option linter.all false
set_option maxRecDepth 100000
set_option maxHeartbeats 1000000
set_option autoImplicit false
/-! Dl: a layer of data over the hand layer. An expression in slots S gives data; a def is one derivation. -/
namespace D
open PySem PySem.Spec PyProof.Rows L2

/-! ### heaps that grow -/
def Kp : HO → Option HO → Prop
  | .tbl ps, x => ∃ ps', x = some (.tbl ps') ∧ (TriplesOk ps.toList → TriplesOk ps'.toList)
  | o, x => x = some o
def Ex (G H : Hp) : Prop := ∀ a o, G a = some o → Kp o (H a)
theorem kp_refl (o : HO) : Kp o (some o) := by
  cases o <;> first | rfl | exact ⟨_, rfl, fun h => h⟩
theorem Kp.is {o : HO} {x : Option HO} (h : Kp o x) (ht : ∀ ps, o ≠ .tbl ps) : x = some o := by
  cases o <;> first | exact h | exact absurd rfl (ht _)
theorem Kp.some {o : HO} {x : Option HO} (h : Kp o x) : ∃ u, x = some u := by
  cases o <;> first | exact ⟨_, h⟩ | (obtain ⟨p, e, _⟩ := h; exact ⟨_, e⟩)
theorem Ex.refl (H : Hp) : Ex H H := fun a o h => by rw [h]; exact kp_refl o
theorem Ex.trans {A B C : Hp} (x : Ex A B) (y : Ex B C) : Ex A C := fun a o h => by
  have h1 := x a o h
  cases o with
  | tbl ps =>
    obtain ⟨p1, e1, t1⟩ := h1
    obtain ⟨p2, e2, t2⟩ := y a _ e1
    exact ⟨p2, e2, fun z => t2 (t1 z)⟩
  | _ => exact y a _ h1
theorem Ex.at_ {A B : Hp} (x : Ex A B) {a : Addr} {o : HO} (h : A a = some o) (ht : ∀ ps, o ≠ .tbl ps := by intro _ z; cases z) : B a = some o := (x a o h).is ht
theorem Ex.dom {A B : Hp} (x : Ex A B) {a : Addr} (h : B a = none) : A a = none := by
  cases e : A a with
  | none => rfl
  | some o => obtain ⟨u, q⟩ := (x a o e).some; rw [h] at q; cases q
theorem Ex.new {G H : Hp} {p : Addr} {o : HO} (x : Ex G H) (h : G p = none) : Ex G (upd H p o) := fun a u e => by
  rw [upd_ne (ne_of_none e h)]
  exact x a u e
theorem Ex.both {G H : Hp} {p : Addr} {o : HO} (x : Ex G H) : Ex (upd G p o) (upd H p o) := fun a u e => by
  by_cases h : a = p
  · subst h; rw [upd_same] at e; cases e; rw [upd_same]; exact kp_refl _
  · rw [upd_ne h] at e; rw [upd_ne h]; exact x a u e
theorem Ex.up {G H : Hp} {p : Addr} {o : HO} (x : Ex G H) (h : H p = some o) : Ex (upd G p o) H := fun a u e => by
  by_cases h1 : a = p
  · subst h1; rw [upd_same] at e; cases e; rw [h]; exact kp_refl _
  · rw [upd_ne h1] at e; exact x a u e
theorem Ex.rd {A B : Hp} (x : Ex A B) {a : Addr} {u : HO} (h : Rd A a u) (ht : ∀ ps, u ≠ .tbl ps := by intro _ z; cases z) : Rd B a u := by
  rcases h with h | ⟨o, h⟩
  · exact .inl (x.at_ h ht)
  · exact .inr ⟨o, x.at_ h⟩
theorem Ex.sqL {K : PySem.W.Frag} {A B : Hp} (x : Ex A B) {a : Addr} {xs : List V} (h : SqL K A a xs) : SqL K B a xs := by
  rcases h with h | h
  · exact .inl (x.rd h)
  · exact .inr h
theorem Ex.sqT {K : PySem.W.Frag} {A B : Hp} (x : Ex A B) {a : Addr} {xs : List V} (h : SqT K A a xs) : SqT K B a xs := by
  rcases h with h | h
  · exact .inl (x.rd h)
  · exact .inr h
def New (G G' H : Hp) : Prop := ∀ a, G' a ≠ none → G a ≠ none ∨ H a = none

/-! ### data in a heap -/
def keyD : Key → PyData
  | .inl i => .int i
  | .inr s => .str s
/-- the law's script, a list of ints that may be one of the module's own objects: it is only read -/
abbrev scrD (ns : List Int) : PyData := .dict [(.none, .tuple (ns.map .int))]
mutual
inductive Rp (K : PySem.W.Frag) (G : Hp) : V → PyData → Prop
  | scr {a : Addr} {ns : List Int} : SqL K G a (ns.map V.int) → Rp K G (.ref a) (.dict [(.none, .tuple (ns.map .int))])
  | non : Rp K G .non .none
  | bl (b : Bool) : Rp K G (.bl b) (.bool b)
  | int (i : Int) : Rp K G (.int i) (.int i)
  | str (x : Str) : Rp K G (.str x) (.str x)
  | lst {a : Addr} {xs : List V} {ds : List PyData} : Rd G a (.lst xs) → RpA K G xs ds → Rp K G (.ref a) (.list ds)
  | tup {a : Addr} {xs : List V} {ds : List PyData} : SqT K G a xs → RpA K G xs ds → Rp K G (.ref a) (.tuple ds)
  | dic {a : Addr} {o : Obj} {kvs : List (Key × V)} {ds : List (PyData × PyData)} : G a = some (.frz o (.dK kvs)) → RpK K G kvs ds → Rp K G (.ref a) (.dict ds)
inductive RpA (K : PySem.W.Frag) (G : Hp) : List V → List PyData → Prop
  | nil : RpA K G [] []
  | cons {v : V} {vs : List V} {d : PyData} {ds : List PyData} : Rp K G v d → RpA K G vs ds → RpA K G (v :: vs) (d :: ds)
inductive RpK (K : PySem.W.Frag) (G : Hp) : List (Key × V) → List (PyData × PyData) → Prop
  | nil : RpK K G [] []
  | cons {k : Key} {v : V} {vs : List (Key × V)} {d : PyData} {ds : List (PyData × PyData)} : Rp K G v d → RpK K G vs ds → RpK K G ((k, v) :: vs) ((keyD k, d) :: ds)
end
/-- attributes -/
inductive RpF (K : PySem.W.Frag) (G : Hp) : List (Str × V) → List (Str × PyData) → Prop
  | nil : RpF K G [] []
  | cons {k : Str} {v : V} {vs : List (Str × V)} {d : PyData} {ds : List (Str × PyData)} : Rp K G v d → RpF K G vs ds → RpF K G ((k, v) :: vs) ((k, d) :: ds)
section
variable {K : PySem.W.Frag} {G H : Hp}
mutual
theorem Rp.mono (x : Ex G H) : ∀ {v : V} {d : PyData}, Rp K G v d → Rp K H v d
  | _, _, .non => .non
  | _, _, .bl b => .bl b
  | _, _, .int i => .int i
  | _, _, .str s => .str s
  | _, _, .lst h t => .lst (x.rd h) (RpA.mono x t)
  | _, _, .tup h t => .tup (x.sqT h) (RpA.mono x t)
  | _, _, .dic h t => .dic (x.at_ h) (RpK.mono x t)
  | _, _, .scr h => .scr (x.sqL h)
theorem RpA.mono (x : Ex G H) : ∀ {vs : List V} {ds : List PyData}, RpA K G vs ds → RpA K H vs ds
  | _, _, .nil => .nil
  | _, _, .cons h t => .cons (Rp.mono x h) (RpA.mono x t)
theorem RpK.mono (x : Ex G H) : ∀ {vs : List (Key × V)} {ds : List (PyData × PyData)}, RpK K G vs ds → RpK K H vs ds
  | _, _, .nil => .nil
  | _, _, .cons h t => .cons (Rp.mono x h) (RpK.mono x t)
end
theorem RpF.mono (x : Ex G H) {vs : List (Str × V)} {ds : List (Str × PyData)} (h : RpF K G vs ds) : RpF K H vs ds := by
  induction h with
  | nil => exact .nil
  | cons r _ ih => exact .cons (r.mono x) ih
mutual
theorem Rp.dp : ∀ (d : PyData) {v : V}, Rp K G v d → d.canLay0 = true → Dp K G v d
  | .none, _, h, _ => by cases h; exact .non
  | .bool _, _, h, _ => by cases h; exact .bl _
  | .int _, _, h, _ => by cases h; exact .int _
  | .str _, _, h, _ => by cases h; exact .str _
  | .list ds, _, h, c => by
    cases h with
    | lst h t => exact .lst (.inl h) (RpA.dp ds t (by simpa [PyData.canLay0] using c))
  | .tuple ds, _, h, c => by
    cases h with
    | tup h t => exact .tup h (RpA.dp ds t (by simpa [PyData.canLay0] using c))
  | .dict _, _, _, c => by simp [PyData.canLay0] at c
theorem RpA.dp : ∀ (ds : List PyData) {vs : List V}, RpA K G vs ds → PyData.canLayAll0 ds = true → DpAll K G vs ds
  | [], _, h, _ => by cases h; exact .nil
  | d :: ds, _, h, c => by
    have c' : d.canLay0 = true ∧ PyData.canLayAll0 ds = true := by simpa [PyData.canLayAll0] using c
    cases h with
    | cons h t => exact .cons (Rp.dp d h c'.1) (RpA.dp ds t c'.2)
end
theorem RpA.length : ∀ {vs : List V} {ds : List PyData}, RpA K G vs ds → vs.length = ds.length
  | _, _, .nil => rfl
  | _, _, .cons _ t => congrArg (· + 1) (RpA.length t)
theorem RpA.append {vs ws : List V} {ds es : List PyData} (h1 : RpA K G vs ds) (h2 : RpA K G ws es) : RpA K G (vs ++ ws) (ds ++ es) := by
  induction vs generalizing ds with
  | nil => cases h1; exact h2
  | cons v vs ih =>
    cases h1 with
    | cons h t => exact .cons h (ih t)
theorem RpA.one {v : V} {d : PyData} (h : Rp K G v d) : RpA K G [v] [d] := .cons h .nil
theorem RpA.get : ∀ {vs : List V} {ds : List PyData} {i : Nat} {d : PyData}, RpA K G vs ds → ds[i]? = some d → ∃ v, vs[i]? = some v ∧ Rp K G v d
  | _, _, _, _, .nil, e => by simp at e
  | _, _, 0, _, .cons h t, e => by simp at e; subst e; exact ⟨_, rfl, h⟩
  | _, _, i + 1, _, .cons h t, e => by
    obtain ⟨v, h1, h2⟩ := RpA.get (i := i) t (by simpa using e)
    exact ⟨v, by simpa using h1, h2⟩
theorem RpA.getV : ∀ {vs : List V} {ds : List PyData} {i : Nat} {v : V}, RpA K G vs ds → vs[i]? = some v → ∃ d, ds[i]? = some d ∧ Rp K G v d
  | _, _, _, _, .nil, e => by simp at e
  | _, _, 0, _, .cons h t, e => by simp at e; subst e; exact ⟨_, rfl, h⟩
  | _, _, i + 1, _, .cons h t, e => by
    obtain ⟨v, h1, h2⟩ := RpA.getV (i := i) t (by simpa using e)
    exact ⟨v, by simpa using h1, h2⟩
theorem RpA.take : ∀ {vs : List V} {ds : List PyData} (n : Nat), RpA K G vs ds → RpA K G (vs.take n) (ds.take n)
  | _, _, 0, _ => .nil
  | _, _, _ + 1, .nil => .nil
  | _, _, n + 1, .cons r t => .cons r (RpA.take n t)
theorem RpA.drop : ∀ {vs : List V} {ds : List PyData} (n : Nat), RpA K G vs ds → RpA K G (vs.drop n) (ds.drop n)
  | _, _, 0, r => r
  | _, _, _ + 1, .nil => .nil
  | _, _, n + 1, .cons _ t => RpA.drop n t
theorem RpA.set {v : V} {d : PyData} (h : Rp K G v d) : ∀ {vs : List V} {ds : List PyData} (n : Nat), RpA K G vs ds → RpA K G (vs.set n v) (ds.set n d)
  | _, _, _, .nil => .nil
  | _, _, 0, .cons _ t => .cons h t
  | _, _, n + 1, .cons r t => .cons r (RpA.set h n t)
theorem RpA.ints : ∀ {vs : List V} {ns : List Int}, RpA K G vs (ns.map PyData.int) → vs = ns.map V.int
  | _, [], h => by cases h; rfl
  | _, n :: ns, h => by
    cases h with
    | cons h t => cases h; rw [RpA.ints t]; rfl
theorem RpA.ofInts : ∀ (ns : List Int), RpA K G (ns.map V.int) (ns.map PyData.int)
  | [] => .nil
  | n :: ns => .cons (.int n) (RpA.ofInts ns)
end

/-! ### slots -/
/-- what an exception bears: its field -/
abbrev Fo := Option (Str × PyData)
/-- an exception's dict holds its field -/
def XcOk (K : PySem.W.Frag) (G : Hp) (d : Option Addr) : Fo → Prop
  | none => d = none
  | some (f, z) => ∃ a v, d = some a ∧ G a = some (.xd [(f, v)]) ∧ Rp K G v z
theorem XcOk.mono {K : PySem.W.Frag} {G G' : Hp} {d : Option Addr} (x : Ex G G') : ∀ {fo : Fo}, XcOk K G d fo → XcOk K G' d fo
  | none, h => h
  | some _, ⟨a, v, e1, e2, r⟩ => ⟨a, v, e1, x.at_ e2, r.mono x⟩
/-- own l xs: a list of the def's own (l: made in it; else handed in to be changed); exc: a caught exception -/
inductive Sl where
  | emp
  | exc (a : Addr) (d : Option Addr) (fo : Fo)
  | val (d : PyData)
  | own (l : Bool) (xs : List PyData)
  | dic (kvs : List (PyData × PyData))
  | ins (l : Bool) (C : Addr) (fs : List (Str × PyData))
def Sl.owned : Sl → Bool
  | .own _ _ => true
  | .dic _ => true
  | .ins _ _ _ => true
  | _ => false
def Sl.loc : Sl → Bool
  | .own l _ => l
  | .ins l _ _ => l
  | _ => true
/-- the tables of code objects: where they stand, of which name their code objects are ("": any) -/
abbrev Tbs := List (Addr × Str)
structure TabX (G H : Hp) (q : Addr × Str) : Prop where
  g : GxR.TabG G q.1
  l : q.2 ≠ ("" : Str) → LamX.TabS G q.1 q.2 ∧ H q.1 = G q.1
inductive Rs where
  | val (d : PyData)
  | new (xs : List PyData)
  | obj (C : Addr) (fs : List (Str × PyData))
structure Bx (tb : Tbs) where
  B : Hp
  G0 : Hp
  H0 : Hp
  /-- what is wished of an exception -/
  W : WX
abbrev W0 : WX := fun _ _ _ _ => False
def OwnAt (K : PySem.W.Frag) (G H : Hp) (p : Addr) : Sl → Prop
  | .own _ xs => ∃ vs, H p = some (.lst vs) ∧ RpA K G vs xs
  | .dic kvs => ∃ vs, H p = some (.dK vs) ∧ RpK K G vs kvs
  | .ins _ C fs => ∃ dx vs, H p = some (.ins C dx vs) ∧ RpF K G vs fs
  | _ => False
/-- an own cell lies apart -/
structure Apart {tb : Tbs} (b : Bx tb) (G : Hp) (p : Addr) (l : Bool) : Prop where
  hb : b.B p = none
  hg : G p = none
  h0 : l = true → b.H0 p = none
  h1 : l = false → b.H0 p ≠ none
def SlOk {tb : Tbs} (K : PySem.W.Frag) (b : Bx tb) (G H : Hp) (o : Option V) (s : Sl) : Prop := match s with
  | .emp => True
  | .exc a d fo => o = some (.ref a) ∧ XcOk K G d fo
  | .val d => ∃ v, o = some v ∧ Rp K G v d
  | .own l xs => ∃ p, o = some (.ref p) ∧ Apart b G p l ∧ OwnAt K G H p (.own l xs)
  | .dic kvs => ∃ p, o = some (.ref p) ∧ Apart b G p true ∧ OwnAt K G H p (.dic kvs)
  | .ins l C fs => ∃ p, o = some (.ref p) ∧ Apart b G p l ∧ OwnAt K G H p (.ins l C fs)
/-- the slot i is an own one at p -/
def Owns (σ : L2.St) (S : List Sl) (i : Nat) (p : Addr) : Prop := (∃ s, S[i]? = some s ∧ s.owned = true) ∧ σ[i]? = some (some (.ref p))
structure StOk {tb : Tbs} (K : PySem.W.Frag) (b : Bx tb) (G H : Hp) (σ : L2.St) (S : List Sl) : Prop where
  sub : Ex G H
  base : Ex b.B H
  g0 : Ex b.G0 G
  nw : ∀ a, H a = none → b.H0 a = none
  gn : New b.G0 G b.H0
  tabs : ∀ q ∈ tb, TabX G H q
  len : σ.length = S.length
  at_ : ∀ (i : Nat) (s : Sl), S[i]? = some s → ∃ o, σ[i]? = some o ∧ SlOk K b G H o s
  sep : ∀ (i j : Nat) (p : Addr), Owns σ S i p → Owns σ S j p → i = j
section
variable {K : PySem.W.Frag} {tb : Tbs} {b : Bx tb} {G H G' H' : Hp} {σ : L2.St} {S : List Sl} {p : Addr} {o : HO}
theorem SlOk.own {o : Option V} {s : Sl} (hs : s.owned = true) (h : SlOk K b G H o s) : ∃ p, o = some (.ref p) ∧ Apart b G p s.loc ∧ OwnAt K G H p s := by
  cases s with
  | own l xs => exact h
  | dic kvs => exact h
  | ins l C fs => exact h
  | _ => cases hs
theorem OwnAt.some {s : Sl} (h : OwnAt K G H p s) : H p ≠ none := by
  cases s with
  | own l xs => obtain ⟨vs, e, _⟩ := h; rw [e]; intro z; cases z
  | dic xs => obtain ⟨vs, e, _⟩ := h; rw [e]; intro z; cases z
  | ins l C fs => obtain ⟨dx, vs, e, _⟩ := h; rw [e]; intro z; cases z
  | _ => exact h.elim
theorem OwnAt.mono {s : Sl} (x : Ex G G') (e : H' p = H p) (h : OwnAt K G H p s) : OwnAt K G' H' p s := by
  cases s with
  | own l xs => obtain ⟨vs, e1, r⟩ := h; exact ⟨vs, e.trans e1, r.mono x⟩
  | dic xs => obtain ⟨vs, e1, r⟩ := h; exact ⟨vs, e.trans e1, r.mono x⟩
  | ins l C fs => obtain ⟨dx, vs, e1, r⟩ := h; exact ⟨dx, vs, e.trans e1, r.mono x⟩
  | _ => exact h.elim
theorem SlOk.of_own {o : Option V} {s : Sl} (hs : s.owned = true) (e : o = some (.ref p)) (h1 : Apart b G p s.loc) (h3 : OwnAt K G H p s) : SlOk K b G H o s := by
  cases s with
  | own l xs => exact ⟨p, e, h1, h3⟩
  | dic kvs => exact ⟨p, e, h1, h3⟩
  | ins l C fs => exact ⟨p, e, h1, h3⟩
  | _ => cases hs
theorem Ex.tab {A B : Hp} (x : Ex A B) {q : Addr} (h : GxR.TabG A q) : GxR.TabG B q := by
  obtain ⟨ps, e, t⟩ := h
  obtain ⟨ps', e', t'⟩ := x q _ e
  exact ⟨ps', e', t' t⟩
theorem TabX.at_ {q : Addr × Str} (h : TabX G H q) : ∃ ps, G q.1 = some (.tbl ps) := let ⟨ps, e, _⟩ := h.g; ⟨ps, e⟩
theorem TabX.ne {q : Addr × Str} (h : TabX G H q) (hp : G p = none) : q.1 ≠ p := fun z => by
  obtain ⟨ps, e⟩ := h.at_
  rw [z, hp] at e
  cases e
/-- cells that aren't known change -/
theorem TabX.put {q : Addr × Str} (h : TabX G H q) (hp : G p = none) : TabX G (upd H p o) q :=
  ⟨h.g, fun n => ⟨(h.l n).1, by rw [upd_ne (h.ne hp)]; exact (h.l n).2⟩⟩
/-- a cell is known from now on -/
theorem TabX.new {q : Addr × Str} (h : TabX G H q) (hp : G p = none) : TabX (upd G p o) H q :=
  ⟨Ex.tab ((Ex.refl G).new hp) h.g, fun n => ⟨(h.l n).1.ext fun b u e => by rw [upd_ne (ne_of_none e hp)]; exact e, by rw [upd_ne (h.ne hp)]; exact (h.l n).2⟩⟩
theorem TabX.same {q : Addr × Str} (h : TabX G H q) (e : H' q.1 = H q.1) : TabX G H' q := ⟨h.g, fun n => ⟨(h.l n).1, e.trans (h.l n).2⟩⟩
theorem StOk.owns (h : StOk K b G H σ S) {i : Nat} {s : Sl} (e : S[i]? = some s) (hs : s.owned = true) (e2 : σ[i]? = some (some (.ref p))) : Apart b G p s.loc ∧ OwnAt K G H p s := by
  obtain ⟨o, h1, h2⟩ := h.at_ i s e
  obtain ⟨q, e3, h3, h5⟩ := h2.own hs
  rw [e2] at h1
  cases h1
  cases e3
  exact ⟨h3, h5⟩
theorem StOk.ownB (h : StOk K b G H σ S) {i : Nat} (w : Owns σ S i p) : b.B p = none ∧ G p = none ∧ H p ≠ none := by
  obtain ⟨⟨s, e, hs⟩, e2⟩ := w
  obtain ⟨a, o⟩ := h.owns e hs e2
  exact ⟨a.hb, a.hg, o.some⟩
/-- the heap moves on: what is known grows to G', own cells stay -/
theorem StOk.move (h : StOk K b G H σ S) (tbs : ∀ q ∈ tb, TabX G' H' q) (x : Ex G G') (s : Ex G' H') (bs : Ex b.B H') (nw : ∀ a, H' a = none → b.H0 a = none) (gn : New b.G0 G' b.H0) (ho : ∀ i p, Owns σ S i p → H' p = H p ∧ G' p = none) : StOk K b G' H' σ S where
  sub := s
  base := bs
  g0 := h.g0.trans x
  nw := nw
  gn := gn
  tabs := tbs
  len := h.len
  at_ := fun i s e => by
    obtain ⟨o, h1, h2⟩ := h.at_ i s e
    refine ⟨o, h1, ?_⟩
    by_cases hs : s.owned = true
    · obtain ⟨p, e2, h3, h5⟩ := h2.own hs
      have w : Owns σ S i p := ⟨⟨s, e, hs⟩, by rw [h1, e2]⟩
      obtain ⟨k1, k2⟩ := ho i p w
      exact SlOk.of_own hs e2 ⟨h3.hb, k2, h3.h0, h3.h1⟩ (h5.mono x k1)
    · cases s with
      | emp => trivial
      | exc a d fo => exact ⟨h2.1, h2.2.mono x⟩
      | val d => obtain ⟨v, e2, r⟩ := h2; exact ⟨v, e2, r.mono x⟩
      | own l xs => exact absurd rfl hs
      | dic xs => exact absurd rfl hs
      | ins l C fs => exact absurd rfl hs
  sep := h.sep
theorem StOk.ownNe (h : StOk K b G H σ S) (hp : H p = none) {i : Nat} {q : Addr} (w : Owns σ S i q) : q ≠ p := fun e => by
  subst e
  exact (h.ownB w).2.2 hp
/-- a new object, known -/
theorem StOk.new (h : StOk K b G H σ S) (hp : H p = none) : StOk K b (upd G p o) (upd H p o) σ S := by
  have gp : G p = none := h.sub.dom hp
  refine h.move (fun q hq => ((h.tabs q hq).put gp).new gp) ((Ex.refl G).new gp) h.sub.both (h.base.new (h.base.dom hp)) (fun a e => ?_) (fun a e => ?_) fun i q w => ?_
  · by_cases ha : a = p
    · subst ha; rw [upd_same] at e; cases e
    · rw [upd_ne ha] at e; exact h.nw a e
  · by_cases ha : a = p
    · subst ha; exact .inr (h.nw _ hp)
    · rw [upd_ne ha] at e; exact h.gn a e
  · have := h.ownNe hp w
    rw [upd_ne this, upd_ne this]
    exact ⟨rfl, (h.ownB w).2.1⟩
theorem StOk.newEx (h : StOk K b G H σ S) (hp : H p = none) : Ex G (upd G p o) := (Ex.refl G).new (h.sub.dom hp)
/-- a cell of no slot is written (or made) -/
theorem StOk.poke (h : StOk K b G H σ S) (hg : G p = none) (hb : b.B p = none) (ho : ∀ i q, Owns σ S i q → q ≠ p) : StOk K b G (upd H p o) σ S := by
  refine h.move (fun q hq => (h.tabs q hq).put hg) (Ex.refl G) (h.sub.new hg) (h.base.new hb) (fun a e => ?_) h.gn fun i q w => ?_
  · by_cases ha : a = p
    · subst ha; rw [upd_same] at e; cases e
    · rw [upd_ne ha] at e; exact h.nw a e
  · have := ho i q w
    rw [upd_ne this]
    exact ⟨rfl, (h.ownB w).2.1⟩
/-- what is known grows by a cell of no slot -/
theorem StOk.know (h : StOk K b G H σ S) (hg : G p = none) (hh : H p = some o) (h0 : b.H0 p = none) (ho : ∀ i q, Owns σ S i q → q ≠ p) : StOk K b (upd G p o) H σ S := by
  refine h.move (fun q hq => (h.tabs q hq).new hg) ((Ex.refl G).new hg) (h.sub.up hh) h.base h.nw (fun a e => ?_) fun i q w => ?_
  · by_cases ha : a = p
    · subst ha; exact .inr h0
    · rw [upd_ne ha] at e; exact h.gn a e
  · have := ho i q w
    rw [upd_ne this]
    exact ⟨rfl, (h.ownB w).2.1⟩
theorem get_set {α : Type} {l : List α} {i j : Nat} {x y : α} (h : (l.set i x)[j]? = some y) : (j = i ∧ y = x ∧ i < l.length) ∨ (j ≠ i ∧ l[j]? = some y) := by
  rw [List.getElem?_set] at h
  by_cases e : i = j
  · rw [if_pos e] at h
    split at h
    · exact .inl ⟨e.symm, (Option.some.inj h).symm, by assumption⟩
    · cases h
  · rw [if_neg e] at h
    exact .inr ⟨fun z => e z.symm, h⟩
theorem set_at {α : Type} {l : List α} {i : Nat} {x : α} (h : i < l.length) : (l.set i x)[i]? = some x := by
  rw [List.getElem?_set, if_pos rfl, if_pos h]
theorem set_off {α : Type} {l : List α} {i j : Nat} {x : α} (h : j ≠ i) : (l.set i x)[j]? = l[j]? := by
  rw [List.getElem?_set, if_neg (fun z => h z.symm)]
theorem set_same {α : Type} : ∀ {l : List α} {i : Nat} {x : α}, l[i]? = some x → l.set i x = l
  | [], _, _, h => by simp at h
  | a :: l, 0, x, h => by simp at h; subst h; rfl
  | a :: l, i + 1, x, h => by
    have := set_same (l := l) (i := i) (x := x) (by simpa using h)
    show a :: l.set i x = a :: l
    rw [this]
theorem Owns.of_set {i j : Nat} {s : Sl} {v : Option V} (w : Owns (σ.set i v) (S.set i s) j p) : (j ≠ i ∧ Owns σ S j p) ∨ (j = i ∧ s.owned = true ∧ v = some (.ref p)) := by
  obtain ⟨⟨t, e1, ht⟩, e2⟩ := w
  rcases get_set e1 with ⟨h1, h2, h3⟩ | ⟨h1, h2⟩
  · subst h1; subst h2
    rcases get_set e2 with ⟨_, h4, _⟩ | ⟨h4, _⟩
    · exact .inr ⟨rfl, ht, h4.symm⟩
    · exact absurd rfl h4
  · rw [set_off h1] at e2
    exact .inl ⟨h1, ⟨⟨t, h2, ht⟩, e2⟩⟩
/-- a slot is stored: s at v -/
theorem StOk.put (h : StOk K b G H σ S) {i : Nat} {s : Sl} {v : Option V} (hs : SlOk K b G H v s) (ho : s.owned = true → ∀ j q, v = some (.ref q) → j ≠ i → ¬ Owns σ S j q) : StOk K b G H (σ.set i v) (S.set i s) where
  sub := h.sub
  base := h.base
  g0 := h.g0
  nw := h.nw
  gn := h.gn
  tabs := h.tabs
  len := by rw [List.length_set, List.length_set]; exact h.len
  at_ := fun j t e => by
    rcases get_set e with ⟨h1, h2, h3⟩ | ⟨h1, h2⟩
    · subst h1; subst h2
      exact ⟨v, set_at (by rw [h.len]; exact h3), hs⟩
    · rw [set_off h1]
      exact h.at_ j t h2
  sep := fun j k p w1 w2 => by
    rcases w1.of_set with ⟨n1, w1⟩ | ⟨e1, o1, v1⟩
    · rcases w2.of_set with ⟨n2, w2⟩ | ⟨e2, o2, v2⟩
      · exact h.sep j k p w1 w2
      · exact absurd w1 (ho o2 j p v2 n1)
    · rcases w2.of_set with ⟨n2, w2⟩ | ⟨e2, o2, v2⟩
      · exact absurd w2 (ho o1 k p v1 n2)
      · rw [e1, e2]
theorem StOk.putVal (h : StOk K b G H σ S) {i : Nat} {v : V} {d : PyData} (r : Rp K G v d) : StOk K b G H (σ.set i (some v)) (S.set i (.val d)) := h.put ⟨v, rfl, r⟩ (fun z => by cases z)
theorem StOk.putEmp (h : StOk K b G H σ S) {i : Nat} {v : Option V} : StOk K b G H (σ.set i v) (S.set i .emp) := h.put trivial (fun z => by cases z)
theorem StOk.slot (h : StOk K b G H σ S) {i : Nat} {d : PyData} (e : S[i]? = some (.val d)) : ∃ v, σ[i]? = some (some v) ∧ Rp K G v d := by
  obtain ⟨o, h1, v, h2, r⟩ := h.at_ i _ e
  exact ⟨v, by rw [h1, h2], r⟩
theorem StOk.slotO (h : StOk K b G H σ S) {i : Nat} {l : Bool} {xs : List PyData} (e : S[i]? = some (.own l xs)) : ∃ p vs, σ[i]? = some (some (.ref p)) ∧ Apart b G p l ∧ H p = some (.lst vs) ∧ RpA K G vs xs := by
  obtain ⟨o, h1, p, h2, h3, vs, h5, r⟩ := h.at_ i _ e
  exact ⟨p, vs, by rw [h1, h2], h3, h5, r⟩
/-- an own cell is written -/
theorem StOk.write (h : StOk K b G H σ S) {i : Nat} {s s' : Sl} (e : σ[i]? = some (some (.ref p))) (e2 : S[i]? = some s) (hs : s.owned = true) (hs' : s'.owned = true) (hl : s'.loc = s.loc) (n : OwnAt K G (upd H p o) p s') : StOk K b G (upd H p o) σ (S.set i s') := by
  have w : Owns σ S i p := ⟨⟨s, e2, hs⟩, e⟩
  obtain ⟨ap, hh⟩ := h.owns e2 hs e
  have nw : ∀ a, upd H p o a = none → b.H0 a = none := fun a z => by
    by_cases ha : a = p
    · subst ha; rw [upd_same] at z; cases z
    · rw [upd_ne ha] at z; exact h.nw a z
  refine { sub := h.sub.new ap.hg, base := h.base.new ap.hb, g0 := h.g0, nw := nw, gn := h.gn, tabs := fun q hq => (h.tabs q hq).put ap.hg, len := by rw [List.length_set]; exact h.len, at_ := ?_, sep := ?_ }
  · intro j t et
    rcases get_set et with ⟨h1, h2, h3⟩ | ⟨h1, h2⟩
    · subst h1; subst h2
      exact ⟨_, e, SlOk.of_own hs' rfl (by rw [hl]; exact ap) n⟩
    · obtain ⟨v, k1, k2⟩ := h.at_ j t h2
      refine ⟨v, k1, ?_⟩
      by_cases ht : t.owned = true
      · obtain ⟨q, e3, h3, h5⟩ := k2.own ht
        have w2 : Owns σ S j q := ⟨⟨t, h2, ht⟩, by rw [k1, e3]⟩
        have hq : q ≠ p := fun z => by subst z; exact h1 (h.sep j i q w2 w)
        exact SlOk.of_own ht e3 h3 (h5.mono (Ex.refl G) (upd_ne hq))
      · cases t with
        | emp => trivial
        | exc a d fo => exact k2
        | val d => exact k2
        | own l xs => exact absurd rfl ht
        | dic xs => exact absurd rfl ht
        | ins l C fs => exact absurd rfl ht
  · intro j k q w1 w2
    have back : ∀ j, Owns σ (S.set i s') j q → Owns σ S j q := fun j w => by
      obtain ⟨⟨t, e1, ht⟩, e3⟩ := w
      rcases get_set e1 with ⟨h1, h2, h3⟩ | ⟨h1, h2⟩
      · subst h1; exact ⟨⟨s, e2, hs⟩, e3⟩
      · exact ⟨⟨t, h2, ht⟩, e3⟩
    exact h.sep j k q (back j w1) (back k w2)
/-- an own list becomes a known one -/
theorem StOk.freeze (h : StOk K b G H σ S) {i : Nat} {xs : List PyData} (e : S[i]? = some (.own true xs)) :
    ∃ p G', σ[i]? = some (some (.ref p)) ∧ Ex G G' ∧ StOk K b G' H σ (S.set i (.val (.list xs))) ∧ Rp K G' (.ref p) (.list xs) := by
  obtain ⟨p, vs, e1, ap, hh, r⟩ := h.slotO e
  have x : Ex G (upd G p (.lst vs)) := (Ex.refl G).new ap.hg
  have rr : Rp K (upd G p (.lst vs)) (.ref p) (.list xs) := .lst (.inl upd_same) (r.mono x)
  have w : Owns σ S i p := ⟨⟨_, e, rfl⟩, e1⟩
  have h1 : StOk K b G H (σ.set i none) (S.set i .emp) := h.putEmp
  have h2 : StOk K b (upd G p (.lst vs)) H (σ.set i none) (S.set i .emp) := h1.know ap.hg hh (ap.h0 rfl) fun j q w2 => by
    rcases w2.of_set with ⟨n, w3⟩ | ⟨_, z, _⟩
    · intro z
      subst z
      exact n (h.sep j i q w3 w)
    · cases z
  have h3 := h2.putVal (i := i) rr
  rw [List.set_set, List.set_set, set_same e1] at h3
  exact ⟨p, _, e1, x, h3, rr⟩
end

/-! ### judgements over data -/
def RsOk {tb : Tbs} (K : PySem.W.Frag) (b : Bx tb) (G H : Hp) (σ : L2.St) (S : List Sl) (v : V) : Rs → Prop
  | .val d => Rp K G v d
  | .new xs => ∃ q vs, v = .ref q ∧ H q = some (.lst vs) ∧ RpA K G vs xs ∧ Apart b G q true ∧ ∀ i p, Owns σ S i p → p ≠ q
  | .obj C fs => ∃ q dx vs, v = .ref q ∧ H q = some (.ins C dx vs) ∧ RpF K G vs fs ∧ Apart b G q true ∧ ∀ i p, Owns σ S i p → p ≠ q
def tE {tb : Tbs} (K : PySem.W.Frag) (b : Bx tb) (S : List Sl) (r : Rs) (S' : List Sl) : TE := fun σ H Q => ∃ G, StOk K b G H σ S ∧ ∀ v G2 H2, StOk K b G2 H2 σ S' → Ex G G2 → RsOk K b G2 H2 σ S' v r → Q v H2
def tT {tb : Tbs} (K : PySem.W.Frag) (b : Bx tb) (S : List Sl) (c : Bool) (S' : List Sl) : TT := fun σ H Q => ∃ G, StOk K b G H σ S ∧ ∀ G2 H2, StOk K b G2 H2 σ S' → Ex G G2 → Q c H2
def tA {tb : Tbs} (K : PySem.W.Frag) (b : Bx tb) (S : List Sl) (ds : List PyData) (S' : List Sl) : TA := fun σ H Q => ∃ G, StOk K b G H σ S ∧ ∀ vs G2 H2, StOk K b G2 H2 σ S' → Ex G G2 → RpA K G2 vs ds → Q vs H2
abbrev E {tb : Tbs} (X : Cx) (b : Bx tb) (S : List Sl) (e : Expr) (r : Rs) (S' : List Sl) : Prop := PE X e (tE X.K b S r S')
abbrev T {tb : Tbs} (X : Cx) (b : Bx tb) (S : List Sl) (e : Expr) (c : Bool) (S' : List Sl) : Prop := PT X e (tT X.K b S c S')
abbrev A {tb : Tbs} (X : Cx) (b : Bx tb) (S : List Sl) (es : List Expr) (ds : List PyData) (S' : List Sl) : Prop := PA X es (tA X.K b S ds S')
/-- what is wanted behind statements -/
structure Po where
  nx : List Sl → Prop
  rt : PyData → List Sl → Prop
  bk : List Sl → Prop := fun _ => False
  ct : List Sl → Prop := fun _ => False
  xr : Value → Fo → List Sl → Prop := fun _ _ _ => False
def tS {tb : Tbs} (K : PySem.W.Frag) (b : Bx tb) (S : List Sl) (P : Po) : TS := fun D σ H => ∃ G, StOk K b G H σ S ∧
  (∀ G2 H2 σ2 S2, StOk K b G2 H2 σ2 S2 → Ex G G2 → P.nx S2 → D.nx σ2 H2) ∧
  (∀ v G2 H2 σ2 S2 d, StOk K b G2 H2 σ2 S2 → Ex G G2 → Rp K G2 v d → P.rt d S2 → D.rt v H2) ∧
  (∀ G2 H2 σ2 S2, StOk K b G2 H2 σ2 S2 → Ex G G2 → P.bk S2 → D.bk σ2 H2) ∧
  (∀ G2 H2 σ2 S2, StOk K b G2 H2 σ2 S2 → Ex G G2 → P.ct S2 → D.ct σ2 H2) ∧
  (∀ G2 H2 σ2 S2 cls d fo, StOk K b G2 H2 σ2 S2 → Ex G G2 → XcOk K G2 d fo → P.xr cls fo S2 → b.W cls d σ2 H2)
abbrev SO {tb : Tbs} (X : Cx) (b : Bx tb) (S : List Sl) (st : Stmt) (P : Po) : Prop := PS X st (tS X.K b S P)
abbrev SS {tb : Tbs} (X : Cx) (b : Bx tb) (S : List Sl) (sts : List Stmt) (P : Po) : Prop := PSs X sts (tS X.K b S P)

section
variable {X : Cx} {e : Expr} {t t' : TE} {st : Stmt} {sts : List Stmt}
theorem PE.w (h : PE X e t) (k : ∀ σ H Q, t' σ H Q → t σ H Q) : PE X e t' := ⟨fun pins s σ H Q I q => h.run pins s σ H Q I (k σ H Q q)⟩
theorem PT.w {t t' : TT} (h : PT X e t) (k : ∀ σ H Q, t' σ H Q → t σ H Q) : PT X e t' := ⟨fun pins s σ H Q I q => h.run pins s σ H Q I (k σ H Q q)⟩
theorem PA.w {es : List Expr} {t t' : TA} (h : PA X es t) (k : ∀ σ H Q, t' σ H Q → t σ H Q) : PA X es t' := ⟨fun pos pins s σ H Q I q => h.run pos pins s σ H Q I (k σ H Q q)⟩
theorem PTs.w {es : List Expr} {t t' : TT} (h : PTs X es t) (k : ∀ σ H Q, t' σ H Q → t σ H Q) : PTs X es t' := ⟨fun pins s σ H Q I q => h.run pins s σ H Q I (k σ H Q q)⟩
theorem PS.w {t t' : TS} (h : PS X st t) (k : ∀ D σ H, t' D σ H → t D σ H) : PS X st t' := ⟨fun pins s σ H D I q => h.run pins s σ H D I (k D σ H q)⟩
theorem PSs.w {t t' : TS} (h : PSs X sts t) (k : ∀ D σ H, t' D σ H → t D σ H) : PSs X sts t' := ⟨fun pins s σ H D I q => h.run pins s σ H D I (k D σ H q)⟩
theorem PE.ex {ι : Type} {f : ι → TE} (h : ∀ i, PE X e (f i)) : PE X e (fun σ H Q => ∃ i, f i σ H Q) := ⟨fun pins s σ H Q I ⟨i, q⟩ => (h i).run pins s σ H Q I q⟩
theorem PT.ex {ι : Type} {f : ι → TT} (h : ∀ i, PT X e (f i)) : PT X e (fun σ H Q => ∃ i, f i σ H Q) := ⟨fun pins s σ H Q I ⟨i, q⟩ => (h i).run pins s σ H Q I q⟩
theorem PTs.ex {es : List Expr} {ι : Type} {f : ι → TT} (h : ∀ i, PTs X es (f i)) : PTs X es (fun σ H Q => ∃ i, f i σ H Q) := ⟨fun pins s σ H Q I ⟨i, q⟩ => (h i).run pins s σ H Q I q⟩
theorem PSs.ex {ι : Type} {f : ι → TS} (h : ∀ i, PSs X sts (f i)) : PSs X sts (fun D σ H => ∃ i, f i D σ H) := ⟨fun pins s σ H D I ⟨i, q⟩ => (h i).run pins s σ H D I q⟩
theorem PE.ff : PE X e (fun _ _ _ => False) := ⟨fun _ _ _ _ _ _ q => q.elim⟩
theorem PT.ff : PT X e (fun _ _ _ => False) := ⟨fun _ _ _ _ _ _ q => q.elim⟩
theorem PSs.ff : PSs X sts (fun _ _ _ => False) := ⟨fun _ _ _ _ _ _ q => q.elim⟩
end

/-! ### rules by values that the hand layer lacks -/
section
variable {X : Cx}
/-- xs + ys, lists that are read -/
def rCatR : R2 := fun x y H Q => ∃ l b xs zs, x = .ref l ∧ y = .ref b ∧ Rd H l (.lst xs) ∧ Rd H b (.lst zs) ∧ xs.length + zs.length ≤ sizeLine ∧ ∀ p, H p = none → Q (.ref p) (upd H p (.lst (xs ++ zs)))
theorem op_catR : OpR X (binaryOp .Add) rCatR := by
  intro pn s σ H x y v u Q I rx ry h
  obtain ⟨l, b, xs, ys, rfl, rfl, hX, hY, hSz, q⟩ := h
  cases rx
  cases ry
  obtain ⟨z, us1, n, rv1, at1⟩ := hX.ok I.hok
  obtain ⟨z2, us2, n2, rv2, at2⟩ := hY.ok I.hok
  have len1 := rv1.length
  have len2 := rv2.length
  refine PySem.P.add_list at1 at2 ?_ (by rw [List.size_toArray, List.size_toArray]; omega)
  have app : us1.toArray ++ us2.toArray = (us1 ++ us2).toArray := by simp
  rw [app]
  exact ⟨.ref _, _, I.lnew (t' := s.toks) (rv1.append rv2) (by rw [List.length_append]; omega), rfl, q _ I.fresh⟩
end

section
variable {X : Cx} {tb : Tbs} {b : Bx tb} {S S1 S2 S3 : List Sl} {e f g : Expr} {r : Rs} {d da db : PyData} {xs ys : List PyData} {pos : Pos}
/-! ### names, constants -/
theorem E_name (i : Nat) {x : Str} (hs : S[i]? = some (.val d)) (h : PE X (.Name x pos) (tVar i)) : E X b S (.Name x pos) (.val d) S :=
  PE.w h fun σ H Q ⟨G, st, q⟩ => by
    obtain ⟨v, h1, h2⟩ := st.slot hs
    exact ⟨v, h1, q v G H st (Ex.refl G) h2⟩
theorem E_c {v : V} (h : PE X e (tC v)) (r : ∀ G, Rp X.K G v d) : E X b S e (.val d) S :=
  PE.w h fun σ H Q ⟨G, st, q⟩ => q v G H st (Ex.refl G) (r G)
theorem E_int {i : Int} {j : Nat} : E X b S (.Constant (.int i) j pos) (.val (.int i)) S := E_c pe_int fun _ => .int i
theorem E_bool {i : Bool} {j : Nat} : E X b S (.Constant (.bool i) j pos) (.val (.bool i)) S := E_c pe_bl fun _ => .bl i
theorem E_none {j : Nat} : E X b S (.Constant .none j pos) (.val .none) S := E_c pe_non fun _ => .non
theorem E_str {i : Str} {j : Nat} : E X b S (.Constant (.str i) j pos) (.val (.str i)) S := E_c pe_str fun _ => .str i
/-- a new list is taken as known -/
theorem E_fz (h : E X b S e (.new xs) S1) : E X b S e (.val (.list xs)) S1 :=
  PE.w h fun σ H Q ⟨G, st, q⟩ => ⟨G, st, fun v G2 H2 st2 x ⟨p, vs, ev, hp, r, ap, ho⟩ => by
    subst ev
    have x2 : Ex G2 (upd G2 p (.lst vs)) := (Ex.refl G2).new ap.hg
    exact q _ _ _ (st2.know ap.hg hp (ap.h0 rfl) ho) (x.trans x2) (.lst (.inl upd_same) (r.mono x2))⟩
/-- an own list is handed on as known: the slot is known from then on -/
theorem E_take (i : Nat) {x : Str} (hs : S[i]? = some (.own true xs)) (h : PE X (.Name x pos) (tVar i)) : E X b S (.Name x pos) (.val (.list xs)) (S.set i (.val (.list xs))) :=
  PE.w h fun σ H Q ⟨G, st, q⟩ => by
    obtain ⟨p, G', h1, x, st2, r⟩ := st.freeze hs
    exact ⟨_, h1, q _ _ _ st2 x r⟩
/-! ### operators by values -/
/-- what an operator gives of data -/
def R2D {tb : Tbs} (K : PySem.W.Frag) (b : Bx tb) (S : List Sl) (r : R2) (da db : PyData) (res : Rs) : Prop := ∀ G H σ v w (Q : VK), StOk K b G H σ S → Rp K G v da → Rp K G w db →
  (∀ z G2 H2, StOk K b G2 H2 σ S → Ex G G2 → RsOk K b G2 H2 σ S z res → Q z H2) → r v w H Q
theorem E_op {op : Operator} {rr : R2} (ho : OpR X (binaryOp op) rr) (hr : R2D X.K b S3 rr da db r) (ha : E X b S1 e (.val da) S2) (hb : E X b S2 f (.val db) S3) : E X b S1 (.BinOp e op f pos) r S3 :=
  PE.w (pe_op ho ha hb) fun σ H Q ⟨G, st, q⟩ => ⟨G, st, fun v G2 H2 st2 x r1 => ⟨G2, st2, fun w G3 H3 st3 x3 r2 =>
    hr G3 H3 σ v w Q st3 (Rp.mono x3 r1) r2 fun z G4 H4 st4 x4 rz => q z G4 H4 st4 (x.trans (x3.trans x4)) rz⟩⟩
theorem E_cmp {op : CmpOp} {rr : R2} (ho : OpR X (compareOp op) rr) (hr : R2D X.K b S3 rr da db r) (hm : behindInMarks op f = false) (ha : E X b S1 e (.val da) S2) (hb : E X b S2 f (.val db) S3) : E X b S1 (.Compare e [op] [f] pos) r S3 :=
  PE.w (pe_cmpR ho ha hb hm) fun σ H Q ⟨G, st, q⟩ => ⟨G, st, fun v G2 H2 st2 x r1 => ⟨G2, st2, fun w G3 H3 st3 x3 r2 =>
    hr G3 H3 σ v w Q st3 (Rp.mono x3 r1) r2 fun z G4 H4 st4 x4 rz => q z G4 H4 st4 (x.trans (x3.trans x4)) rz⟩⟩
theorem E_ix {rr : R2} (ho : IxR X rr) (hr : R2D X.K b S3 rr da db r) (hs : PlainIx f) (ha : E X b S1 e (.val da) S2) (hb : E X b S2 f (.val db) S3) : E X b S1 (.Subscript e f pos) r S3 :=
  PE.w (pe_ix ho ha hb hs) fun σ H Q ⟨G, st, q⟩ => ⟨G, st, fun v G2 H2 st2 x r1 => ⟨G2, st2, fun w G3 H3 st3 x3 r2 =>
    hr G3 H3 σ v w Q st3 (Rp.mono x3 r1) r2 fun z G4 H4 st4 x4 rz => q z G4 H4 st4 (x.trans (x3.trans x4)) rz⟩⟩
section
variable {K : PySem.W.Frag} {i j : Int}
theorem r2_int {g : Int → Int → V} {z : PyData} (h : ∀ G, Rp K G (g i j) z) : R2D K b S (rI0 g) (.int i) (.int j) (.val z) := fun G H σ v w Q st r1 r2 q => by
  cases r1; cases r2
  exact ⟨i, j, rfl, rfl, q _ G H st (Ex.refl G) (h G)⟩
theorem r2_intC {C : Int → Int → Prop} {g : Int → Int → V} {z : PyData} (c : C i j) (h : ∀ G, Rp K G (g i j) z) : R2D K b S (rI C g) (.int i) (.int j) (.val z) := fun G H σ v w Q st r1 r2 q => by
  cases r1; cases r2
  exact ⟨i, j, rfl, rfl, c, q _ G H st (Ex.refl G) (h G)⟩
end
theorem E_add {i j : Int} (ha : E X b S1 e (.val (.int i)) S2) (hb : E X b S2 f (.val (.int j)) S3) : E X b S1 (.BinOp e .Add f pos) (.val (.int (i + j))) S3 := E_op op_add (r2_int fun _ => .int _) ha hb
theorem E_sub {i j : Int} (ha : E X b S1 e (.val (.int i)) S2) (hb : E X b S2 f (.val (.int j)) S3) : E X b S1 (.BinOp e .Sub f pos) (.val (.int (i - j))) S3 := E_op op_sub (r2_int fun _ => .int _) ha hb
theorem E_mul {i j : Int} (ha : E X b S1 e (.val (.int i)) S2) (hb : E X b S2 f (.val (.int j)) S3) (hc : CMul i j) : E X b S1 (.BinOp e .Mult f pos) (.val (.int (i * j))) S3 := E_op op_mul (r2_intC hc fun _ => .int _) ha hb
theorem E_fdiv {i j : Int} (ha : E X b S1 e (.val (.int i)) S2) (hb : E X b S2 f (.val (.int j)) S3) (hc : CDiv i j) : E X b S1 (.BinOp e .FloorDiv f pos) (.val (.int (i / j))) S3 := E_op op_fdiv (r2_intC hc fun _ => .int _) ha hb
theorem E_mod {i j : Int} (ha : E X b S1 e (.val (.int i)) S2) (hb : E X b S2 f (.val (.int j)) S3) (hc : 0 < j) : E X b S1 (.BinOp e .Mod f pos) (.val (.int (i % j))) S3 := E_op op_mod (r2_intC hc fun _ => .int _) ha hb
theorem E_pow {i j : Int} (ha : E X b S1 e (.val (.int i)) S2) (hb : E X b S2 f (.val (.int j)) S3) (hc : CPow i j) : E X b S1 (.BinOp e .Pow f pos) (.val (.int (i ^ j.toNat))) S3 := E_op op_pow (r2_intC hc fun _ => .int _) ha hb
theorem E_lt {i j : Int} (ha : E X b S1 e (.val (.int i)) S2) (hb : E X b S2 f (.val (.int j)) S3) : E X b S1 (.Compare e [.Lt] [f] pos) (.val (.bool (decide (i < j)))) S3 := E_cmp op_lt (r2_int fun _ => .bl _) (nomark _) ha hb
theorem E_le {i j : Int} (ha : E X b S1 e (.val (.int i)) S2) (hb : E X b S2 f (.val (.int j)) S3) : E X b S1 (.Compare e [.LtE] [f] pos) (.val (.bool (decide (i ≤ j)))) S3 := E_cmp op_le (r2_int fun _ => .bl _) (nomark _) ha hb
theorem E_gt {i j : Int} (ha : E X b S1 e (.val (.int i)) S2) (hb : E X b S2 f (.val (.int j)) S3) : E X b S1 (.Compare e [.Gt] [f] pos) (.val (.bool (decide (j < i)))) S3 := E_cmp op_gt (r2_int fun _ => .bl _) (nomark _) ha hb
theorem E_ge {i j : Int} (ha : E X b S1 e (.val (.int i)) S2) (hb : E X b S2 f (.val (.int j)) S3) : E X b S1 (.Compare e [.GtE] [f] pos) (.val (.bool (decide (j ≤ i)))) S3 := E_cmp op_ge (r2_int fun _ => .bl _) (nomark _) ha hb
theorem E_eq {da db : PyData} (hu : X.A.units + 64 < cLine) (ha : E X b S1 e (.val da) S2) (hb : E X b S2 f (.val db) S3) (h1 : SeqAt.shaped da = true) (h2 : SeqAt.shaped db = true) : E X b S1 (.Compare e [.Eq] [f] pos) (.val (.bool (PyData.eqv da db))) S3 :=
  E_cmp (op_eqD hu) (fun G H σ v w Q st r1 r2 q => ⟨da, db, Rp.dp _ (r1.mono st.sub) (SeqAt.canLay_of_shaped h1), Rp.dp _ (r2.mono st.sub) (SeqAt.canLay_of_shaped h2), h1, h2, q _ G H st (Ex.refl G) (.bl _)⟩) (nomark _) ha hb
theorem E_ne {da db : PyData} (hu : X.A.units + 64 < cLine) (ha : E X b S1 e (.val da) S2) (hb : E X b S2 f (.val db) S3) (h1 : SeqAt.shaped da = true) (h2 : SeqAt.shaped db = true) : E X b S1 (.Compare e [.NotEq] [f] pos) (.val (.bool (!PyData.eqv da db))) S3 :=
  E_cmp (op_neD hu) (fun G H σ v w Q st r1 r2 q => ⟨da, db, Rp.dp _ (r1.mono st.sub) (SeqAt.canLay_of_shaped h1), Rp.dp _ (r2.mono st.sub) (SeqAt.canLay_of_shaped h2), h1, h2, q _ G H st (Ex.refl G) (.bl _)⟩) (nomark _) ha hb
def isNoneD : PyData → Bool
  | .none => true
  | _ => false
theorem isNone_of {K : PySem.W.Frag} {G : Hp} {v : V} {d : PyData} (h : Rp K G v d) : decide (v = .non) = isNoneD d := by cases h <;> rfl
theorem E_isN {da : PyData} {p2 : Pos} {j : Nat} (ha : E X b S1 e (.val da) S2) : E X b S1 (.Compare e [.Is] [.Constant .none j p2] pos) (.val (.bool (isNoneD da))) S2 :=
  E_cmp op_isN (fun G H σ v w Q st r1 r2 q => by cases r2; exact ⟨rfl, by rw [isNone_of r1]; exact q _ G H st (Ex.refl G) (.bl _)⟩) (nomark _) ha E_none
theorem E_notN {da : PyData} {p2 : Pos} {j : Nat} (ha : E X b S1 e (.val da) S2) : E X b S1 (.Compare e [.IsNot] [.Constant .none j p2] pos) (.val (.bool (!isNoneD da))) S2 :=
  E_cmp op_notN (fun G H σ v w Q st r1 r2 q => by cases r2; exact ⟨rfl, by rw [isNone_of r1]; exact q _ G H st (Ex.refl G) (.bl _)⟩) (nomark _) ha E_none
theorem inV_ints (n : Int) (ns : List Int) : inV (.int n) (ns.map V.int) = decide (n ∈ ns) := by
  unfold inV
  rw [Bool.eq_iff_iff, List.any_eq_true, decide_eq_true_iff]
  constructor
  · rintro ⟨v, hv, e⟩
    obtain ⟨m, hm, rfl⟩ := List.mem_map.mp hv
    have : m = n := by simpa [eqV] using e
    exact this ▸ hm
  · intro h
    exact ⟨.int n, List.mem_map.mpr ⟨n, h, rfl⟩, by simp [eqV]⟩
theorem flat_ints (ns : List Int) : (ns.map V.int).all flatV = true := by
  rw [List.all_eq_true]
  intro v hv
  obtain ⟨m, hm, rfl⟩ := List.mem_map.mp hv
  rfl
/-- n in ints -/
theorem r2_inL {K : PySem.W.Frag} {neg : Bool} {n : Int} {ns : List Int} : R2D K b S (rIn K neg) (.int n) (.list (ns.map .int)) (.val (.bool (if neg then !decide (n ∈ ns) else decide (n ∈ ns)))) := fun G H σ v w Q st r1 r2 q => by
  cases r1
  cases r2 with
  | lst hs ha =>
    rw [ha.ints] at hs
    refine ⟨_, _, rfl, .inl (.inl (st.sub.rd hs)), rfl, flat_ints ns, ?_⟩
    rw [inV_ints]
    exact q _ G H st (Ex.refl G) (.bl _)
theorem r2_inT {K : PySem.W.Frag} {neg : Bool} {n : Int} {ns : List Int} : R2D K b S (rIn K neg) (.int n) (.tuple (ns.map .int)) (.val (.bool (if neg then !decide (n ∈ ns) else decide (n ∈ ns)))) := fun G H σ v w Q st r1 r2 q => by
  cases r1
  cases r2 with
  | tup hs ha =>
    rw [ha.ints] at hs
    refine ⟨_, _, rfl, .inr (st.sub.sqT hs), rfl, flat_ints ns, ?_⟩
    rw [inV_ints]
    exact q _ G H st (Ex.refl G) (.bl _)
theorem E_inL {n : Int} {ns : List Int} (ha : E X b S1 e (.val (.int n)) S2) (hb : E X b S2 f (.val (.list (ns.map .int))) S3) (hm : behindInMarks .In f = false) : E X b S1 (.Compare e [.In] [f] pos) (.val (.bool (decide (n ∈ ns)))) S3 := E_cmp op_in_seq (r2_inL (neg := false)) hm ha hb
theorem E_niL {n : Int} {ns : List Int} (ha : E X b S1 e (.val (.int n)) S2) (hb : E X b S2 f (.val (.list (ns.map .int))) S3) (hm : behindInMarks .NotIn f = false) : E X b S1 (.Compare e [.NotIn] [f] pos) (.val (.bool (!decide (n ∈ ns)))) S3 := E_cmp op_notIn_seq (r2_inL (neg := true)) hm ha hb
theorem E_inT {n : Int} {ns : List Int} (ha : E X b S1 e (.val (.int n)) S2) (hb : E X b S2 f (.val (.tuple (ns.map .int))) S3) (hm : behindInMarks .In f = false) : E X b S1 (.Compare e [.In] [f] pos) (.val (.bool (decide (n ∈ ns)))) S3 := E_cmp op_in_seq (r2_inT (neg := false)) hm ha hb
theorem E_niT {n : Int} {ns : List Int} (ha : E X b S1 e (.val (.int n)) S2) (hb : E X b S2 f (.val (.tuple (ns.map .int))) S3) (hm : behindInMarks .NotIn f = false) : E X b S1 (.Compare e [.NotIn] [f] pos) (.val (.bool (!decide (n ∈ ns)))) S3 := E_cmp op_notIn_seq (r2_inT (neg := true)) hm ha hb
/-! ### list + list, tuple + tuple -/
theorem E_cat {xs ys : List PyData} (ha : E X b S1 e (.val (.list xs)) S2) (hb : E X b S2 f (.val (.list ys)) S3) (hl : xs.length + ys.length ≤ sizeLine) : E X b S1 (.BinOp e .Add f pos) (.new (xs ++ ys)) S3 :=
  E_op op_catR (fun G H σ v w Q st r1 r2 q => by
    cases r1 with
    | lst h1 a1 =>
      cases r2 with
      | lst h2 a2 =>
        refine ⟨_, _, _, _, rfl, rfl, st.sub.rd h1, st.sub.rd h2, by rw [a1.length, a2.length]; exact hl, fun p hp => ?_⟩
        have hg := st.sub.dom hp
        exact q _ _ _ (st.poke hg (st.base.dom hp) fun i q w => st.ownNe hp w) (Ex.refl G) ⟨p, _, rfl, upd_same, a1.append a2, ⟨st.base.dom hp, hg, fun _ => st.nw _ hp, fun z => by cases z⟩, fun i q w => st.ownNe hp w⟩) ha hb
theorem E_catT {xs ys : List PyData} (ha : E X b S1 e (.val (.tuple xs)) S2) (hb : E X b S2 f (.val (.tuple ys)) S3) (hl : xs.length + ys.length ≤ sizeLine) : E X b S1 (.BinOp e .Add f pos) (.val (.tuple (xs ++ ys))) S3 :=
  E_op op_catA (fun G H σ v w Q st r1 r2 q => by
    cases r1 with
    | tup h1 a1 =>
      cases r2 with
      | tup h2 a2 =>
        refine ⟨_, _, _, _, rfl, rfl, st.sub.sqT h1, st.sub.sqT h2, by rw [a1.length, a2.length]; exact hl, fun z => ?_, fun _ z => ?_, fun _ _ p hp => ?_⟩
        · subst z; cases a1; exact q _ G H st (Ex.refl G) (.tup h2 a2)
        · subst z; cases a2; rw [List.append_nil] at q; exact q _ G H st (Ex.refl G) (.tup h1 a1)
        · exact q _ _ _ (st.new hp) (st.newEx hp) (.tup (.inl (.inl upd_same)) ((a1.append a2).mono (st.newEx hp)))) ha hb
end

/-! ### tests -/
section
variable {X : Cx} {tb : Tbs} {b : Bx tb} {S S1 S2 S3 : List Sl} {e f g : Expr} {es : List Expr} {r : Rs} {d da db : PyData} {xs ys : List PyData} {pos : Pos} {c c1 c2 : Bool}
theorem T_val (h : E X b S e (.val (.bool c)) S1) (he : ∀ whole, isTrue e X.env whole = (do let v ← whole; standAt e.pos; holding [v] (truthy v)) := by intro _; rfl) : T X b S e c S1 :=
  PT.w (pt_val h he) fun σ H Q ⟨G, st, q⟩ => ⟨G, st, fun v G2 H2 st2 x r => by cases r; exact ⟨c, rfl, q G2 H2 st2 x⟩⟩
abbrev W {tb : Tbs} (X : Cx) (b : Bx tb) (S : List Sl) (e : Expr) (c : Bool) (S' : List Sl) : Prop := PW X e (tT X.K b S c S')
theorem W.t (h : W X b S e c S1) : T X b S e c S1 := PW.pt h
theorem PW.w {t t' : TT} (h : PW X e t) (k : ∀ σ H Q, t' σ H Q → t σ H Q) : PW X e t' := ⟨fun wh pins s σ H Q I q => h.run wh pins s σ H Q I (k σ H Q q)⟩
theorem PW.ff : PW X e (fun _ _ _ => False) := ⟨fun _ _ _ _ _ _ _ q => q.elim⟩
theorem W_and1 (h : T X b S e c S1) : W X b S (.BoolOp .And [e] pos) c S1 := pw_and1 h
theorem W_or1 (h : T X b S e c S1) : W X b S (.BoolOp .Or [e] pos) c S1 := pw_or1 h
theorem W_and (h1 : T X b S e c1 S1) (h2 : c1 = true → W X b S1 (.BoolOp .And (f :: es) pos) c2 S1) : W X b S (.BoolOp .And (e :: f :: es) pos) (c1 && c2) S1 := by
  cases c1 with
  | true =>
    refine PW.w (pw_and h1 (h2 rfl)) fun σ H Q ⟨G, st, q⟩ => ⟨G, st, fun G2 H2 st2 x => ?_⟩
    show tT X.K b S1 c2 S1 σ H2 Q
    exact ⟨G2, st2, fun G3 H3 st3 x3 => q G3 H3 st3 (x.trans x3)⟩
  | false =>
    refine PW.w (pw_and h1 PW.ff) fun σ H Q ⟨G, st, q⟩ => ⟨G, st, fun G2 H2 st2 x => ?_⟩
    exact q G2 H2 st2 x
theorem W_or (h1 : T X b S e c1 S1) (h2 : c1 = false → W X b S1 (.BoolOp .Or (f :: es) pos) c2 S1) : W X b S (.BoolOp .Or (e :: f :: es) pos) (c1 || c2) S1 := by
  cases c1 with
  | false =>
    refine PW.w (pw_or h1 (h2 rfl)) fun σ H Q ⟨G, st, q⟩ => ⟨G, st, fun G2 H2 st2 x => ?_⟩
    show tT X.K b S1 c2 S1 σ H2 Q
    exact ⟨G2, st2, fun G3 H3 st3 x3 => q G3 H3 st3 (x.trans x3)⟩
  | true =>
    refine PW.w (pw_or h1 PW.ff) fun σ H Q ⟨G, st, q⟩ => ⟨G, st, fun G2 H2 st2 x => ?_⟩
    exact q G2 H2 st2 x
theorem T_not (h : T X b S e c S1) : T X b S (.UnaryOp .Not e pos) (!c) S1 := PT.w (pt_not h) fun σ H Q ⟨G, st, q⟩ => ⟨G, st, fun G2 H2 st2 x => q G2 H2 st2 x⟩
theorem E_not (h : E X b S e (.val (.bool c)) S1) : E X b S (.UnaryOp .Not e pos) (.val (.bool (!c))) S1 := PE.w (pe_not h) fun σ H Q ⟨G, st, q⟩ => ⟨G, st, fun v G2 H2 st2 x r => by cases r; exact ⟨c, rfl, q _ G2 H2 st2 x (.bl _)⟩⟩
theorem E_and (h1 : E X b S e (.val (.bool c1)) S1) (h2 : c1 = true → E X b S1 (.BoolOp .And (f :: es) pos) (.val (.bool c2)) S1) : E X b S (.BoolOp .And (e :: f :: es) pos) (.val (.bool (c1 && c2))) S1 := by
  cases c1 with
  | true =>
    refine PE.w (pe_and h1 (h2 rfl)) fun σ H Q ⟨G, st, q⟩ => ⟨G, st, fun v G2 H2 st2 x r => ?_⟩
    cases r
    exact ⟨true, rfl, G2, st2, fun v3 G3 H3 st3 x3 r3 => q v3 G3 H3 st3 (x.trans x3) r3⟩
  | false =>
    refine PE.w (pe_and h1 PE.ff) fun σ H Q ⟨G, st, q⟩ => ⟨G, st, fun v G2 H2 st2 x r => ?_⟩
    cases r
    exact ⟨false, rfl, q _ G2 H2 st2 x (.bl _)⟩
theorem E_or (h1 : E X b S e (.val (.bool c1)) S1) (h2 : c1 = false → E X b S1 (.BoolOp .Or (f :: es) pos) (.val (.bool c2)) S1) : E X b S (.BoolOp .Or (e :: f :: es) pos) (.val (.bool (c1 || c2))) S1 := by
  cases c1 with
  | false =>
    refine PE.w (pe_or h1 (h2 rfl)) fun σ H Q ⟨G, st, q⟩ => ⟨G, st, fun v G2 H2 st2 x r => ?_⟩
    cases r
    exact ⟨false, rfl, G2, st2, fun v3 G3 H3 st3 x3 r3 => q v3 G3 H3 st3 (x.trans x3) r3⟩
  | true =>
    refine PE.w (pe_or h1 PE.ff) fun σ H Q ⟨G, st, q⟩ => ⟨G, st, fun v G2 H2 st2 x r => ?_⟩
    cases r
    exact ⟨true, rfl, q _ G2 H2 st2 x (.bl _)⟩
theorem E_one {op : BoolOp} (h : E X b S e r S1) : E X b S (.BoolOp op [e] pos) r S1 := pe_one h
theorem E_if (hc : T X b S e c S1) (h1 : c = true → E X b S1 f r S2) (h2 : c = false → E X b S1 g r S2) : E X b S (.IfExp e f g pos) r S2 := by
  cases c with
  | true =>
    refine PE.w (pe_ifExp hc (h1 rfl) PE.ff) fun σ H Q ⟨G, st, q⟩ => ⟨G, st, fun G2 H2 st2 x => ?_⟩
    show tE X.K b S1 r S2 σ H2 Q
    exact ⟨G2, st2, fun v3 G3 H3 st3 x3 r3 => q v3 G3 H3 st3 (x.trans x3) r3⟩
  | false =>
    refine PE.w (pe_ifExp hc PE.ff (h2 rfl)) fun σ H Q ⟨G, st, q⟩ => ⟨G, st, fun G2 H2 st2 x => ?_⟩
    show tE X.K b S1 r S2 σ H2 Q
    exact ⟨G2, st2, fun v3 G3 H3 st3 x3 r3 => q v3 G3 H3 st3 (x.trans x3) r3⟩
/-- the truth of data -/
def truD : PyData → Bool
  | .none => false
  | .bool k => k
  | .int i => i != 0
  | .str y => (y.length : Int) != 0
  | .list xs => !xs.isEmpty
  | .tuple xs => !xs.isEmpty
  | .dict xs => !xs.isEmpty
def smallD : PyData → Prop
  | .str y => y.length ≤ sizeLine
  | .dict _ => False
  | _ => True
theorem tru_of {K : PySem.W.Frag} {G H : Hp} (x : Ex G H) {v : V} {d : PyData} (r : Rp K G v d) (hs : smallD d) : TruV K v H (truD d) := by
  cases r with
  | non => rfl
  | bl k => rfl
  | int i => rfl
  | str y => exact ⟨hs, rfl⟩
  | lst h t =>
    refine .inl ⟨_, .inl (x.rd h), ?_⟩
    cases t <;> rfl
  | tup h t =>
    refine .inr (.inl ⟨_, x.sqT h, ?_⟩)
    cases t <;> rfl
  | dic h t => exact hs.elim
  | scr h => exact hs.elim
theorem T_tru (h : E X b S e (.val d) S1) (hs : smallD d := by trivial) (he : ∀ whole, isTrue e X.env whole = (do let v ← whole; standAt e.pos; holding [v] (truthy v)) := by intro _; rfl) : T X b S e (truD d) S1 :=
  PT.w (pt_truth h he) fun σ H Q ⟨G, st, q⟩ => ⟨G, st, fun v G2 H2 st2 x r => ⟨_, tru_of st2.sub r hs, q G2 H2 st2 x⟩⟩
theorem E_chain {op op' : CmpOp} {rr rr' : R2} {k k' : Bool} {dc : PyData} (ho : OpR X (compareOp op) rr) (ho' : OpR X (compareOp op') rr') (hr : R2D X.K b S3 rr da db (.val (.bool k))) (hr' : R2D X.K b S3 rr' db dc (.val (.bool k')))
    (ha : E X b S1 e (.val da) S2) (hb : E X b S2 f (.val db) S3) (hc : k = true → E X b S3 g (.val dc) S3) (hm : lastMarks [op, op'] [f, g] = false) : E X b S1 (.Compare e [op, op'] [f, g] pos) (.val (.bool (k && k'))) S3 := by
  cases k with
  | true =>
    refine PE.w (pe_chain ho ho' ha hb (hc rfl) hm) fun σ H Q ⟨G, st, q⟩ => ⟨G, st, fun v G2 H2 st2 x r1 => ⟨G2, st2, fun w G3 H3 st3 x3 r2 => hr G3 H3 σ v w _ st3 (r1.mono x3) r2 fun z G4 H4 st4 x4 rz => ?_⟩⟩
    cases rz
    refine ⟨true, rfl, ?_⟩
    show tE X.K b S3 (.val dc) S3 σ H4 _
    exact ⟨G4, st4, fun u G5 H5 st5 x5 r5 => hr' G5 H5 σ w u Q st5 (r2.mono (x4.trans x5)) r5 fun z G6 H6 st6 x6 rz => q z G6 H6 st6 (x.trans (x3.trans (x4.trans (x5.trans x6)))) rz⟩
  | false =>
    refine PE.w (pe_chain ho ho' ha hb PE.ff hm) fun σ H Q ⟨G, st, q⟩ => ⟨G, st, fun v G2 H2 st2 x r1 => ⟨G2, st2, fun w G3 H3 st3 x3 r2 => hr G3 H3 σ v w _ st3 (r1.mono x3) r2 fun z G4 H4 st4 x4 rz => ?_⟩⟩
    cases rz
    refine ⟨false, rfl, ?_⟩
    exact q _ G4 H4 st4 (x.trans (x3.trans x4)) (.bl _)
theorem E_lele {i j k : Int} (ha : E X b S1 e (.val (.int i)) S2) (hb : E X b S2 f (.val (.int j)) S3) (hc : decide (i ≤ j) = true → E X b S3 g (.val (.int k)) S3) (hm : lastMarks [.LtE, .LtE] [f, g] = false := by rfl) : E X b S1 (.Compare e [.LtE, .LtE] [f, g] pos) (.val (.bool (decide (i ≤ j) && decide (j ≤ k)))) S3 :=
  E_chain op_le op_le (r2_int fun _ => .bl _) (r2_int fun _ => .bl _) ha hb hc hm
/-! ### argument lists, displays -/
theorem A_nil : A X b S [] [] S := PA.w pa_nil fun σ H Q ⟨G, st, q⟩ => q [] G H st (Ex.refl G) .nil
theorem A_cons (h1 : E X b S e (.val d) S1) (h2 : A X b S1 es xs S2) (hs : starEach (e :: es) X.env = (false, eval e X.env) :: starEach es X.env := by rfl) : A X b S (e :: es) (d :: xs) S2 :=
  PA.w (pa_cons h1 h2 hs) fun σ H Q ⟨G, st, q⟩ => ⟨G, st, fun v G2 H2 st2 x r => ⟨G2, st2, fun vs G3 H3 st3 x3 r3 => q _ G3 H3 st3 (x.trans x3) (.cons (r.mono x3) r3)⟩⟩
theorem E_tup {j : Nat} (h : A X b S es xs S1) (hl : xs.length ≤ sizeLine) : E X b S (.Tuple es j pos) (.val (.tuple xs)) S1 :=
  PE.w (pe_tup h) fun σ H Q ⟨G, st, q⟩ => ⟨G, st, fun vs G2 H2 st2 x r => ⟨by rw [r.length]; exact hl, fun p hp =>
    q _ _ _ (st2.new hp) (x.trans (st2.newEx hp)) (.tup (.inl (.inl upd_same)) (r.mono (st2.newEx hp)))⟩⟩
theorem StOk.newL {K : PySem.W.Frag} {G H : Hp} {σ : L2.St} {p : Addr} {vs : List V} (st : StOk K b G H σ S) (hp : H p = none) (r : RpA K G vs xs) : StOk K b G (upd H p (.lst vs)) σ S ∧ RsOk K b G (upd H p (.lst vs)) σ S (.ref p) (.new xs) :=
  have hg := st.sub.dom hp
  ⟨st.poke hg (st.base.dom hp) fun i q w => st.ownNe hp w, p, vs, rfl, upd_same, r, ⟨st.base.dom hp, hg, fun _ => st.nw _ hp, fun z => by cases z⟩, fun i q w => st.ownNe hp w⟩
theorem E_lst (h : A X b S es xs S1) (hl : xs.length ≤ sizeLine) : E X b S (.List es pos) (.new xs) S1 :=
  PE.w (pe_lst h) fun σ H Q ⟨G, st, q⟩ => ⟨G, st, fun vs G2 H2 st2 x r => ⟨by rw [r.length]; exact hl, fun p hp =>
    let ⟨a, b⟩ := st2.newL hp r
    q _ _ _ a x b⟩⟩
/-! ### calls of built-ins -/
def RCD {tb : Tbs} (K : PySem.W.Frag) (b : Bx tb) (S : List Sl) (r : List V → Hp → VK → Prop) (ds : List PyData) (res : Rs) : Prop := ∀ G H σ vs (Q : VK), StOk K b G H σ S → RpA K G vs ds →
  (∀ z G2 H2, StOk K b G2 H2 σ S → Ex G G2 → RsOk K b G2 H2 σ S z res → Q z H2) → r vs H Q
theorem E_cb {rr : List V → Hp → VK → Prop} (h : PE X e (tCB rr (tA X.K b S xs S1))) (hr : RCD X.K b S1 rr xs r) : E X b S e r S1 :=
  PE.w h fun σ H Q ⟨G, st, q⟩ => ⟨G, st, fun vs G2 H2 st2 x r1 => hr G2 H2 σ vs Q st2 r1 fun z G3 H3 st3 x3 rz => q z G3 H3 st3 (x.trans x3) rz⟩
end
section
variable {X : Cx} {tb : Tbs} {b : Bx tb} {S S1 S2 S3 : List Sl} {e f g : Expr} {es : List Expr} {r : Rs} {d da db : PyData} {xs ys : List PyData} {pos p : Pos} {c c1 c2 : Bool} {n m : Int} {ns : List Int}
def lenD : PyData → Option Nat
  | .str y => if y.length ≤ sizeLine then some y.length else none
  | .list xs => some xs.length
  | .tuple xs => some xs.length
  | .dict ((.none, .tuple xs) :: _) => some xs.length
  | _ => none
theorem len_of {K : PySem.W.Frag} {G H : Hp} (x : Ex G H) {v : V} {d : PyData} {k : Nat} (r : Rp K G v d) (h : lenD d = some k) : LenV K v H k := by
  cases r with
  | str y =>
    simp only [lenD] at h
    by_cases c : y.length ≤ sizeLine
    · rw [if_pos c] at h; cases h; exact ⟨c, rfl⟩
    · rw [if_neg c] at h; cases h
  | lst h1 t => cases h; exact .inl ⟨_, .inl (x.rd h1), t.length.symm⟩
  | tup h1 t => cases h; exact .inr ⟨_, x.sqT h1, t.length.symm⟩
  | scr h1 => cases h; exact .inl ⟨_, x.sqL h1, by rw [List.length_map, List.length_map]⟩
  | dic h1 t =>
    cases t with
    | nil => cases h
    | @cons k _ _ _ _ _ _ => cases k <;> cases h
  | _ => cases h
theorem bb_len : bootBuiltins "len" = some (.builtin "len") := by decide +kernel
theorem bb_sum : bootBuiltins "sum" = some (.builtin "sum") := by decide +kernel
theorem bb_min : bootBuiltins "min" = some (.builtin "min") := by decide +kernel
theorem bb_max : bootBuiltins "max" = some (.builtin "max") := by decide +kernel
theorem bb_sorted : bootBuiltins "sorted" = some (.builtin "sorted") := by decide +kernel
theorem bb_isinstance : bootBuiltins "isinstance" = some (.builtin "isinstance") := by decide +kernel
theorem bb_int : bootBuiltins "int" = some (.type "int") := by decide +kernel
theorem bb_bool : bootBuiltins "bool" = some (.type "bool") := by decide +kernel
theorem bb_str : bootBuiltins "str" = some (.type "str") := by decide +kernel
theorem bb_tuple : bootBuiltins "tuple" = some (.type "tuple") := by decide +kernel
theorem bb_list : bootBuiltins "list" = some (.type "list") := by decide +kernel
theorem bb_dict : bootBuiltins "dict" = some (.type "dict") := by decide +kernel
theorem bb_set : bootBuiltins "set" = some (.type "set") := by decide +kernel
theorem E_len {k : Nat} (hm : X.mg "len" = none) (ha : E X b S e (.val d) S1) (hd : lenD d = some k) (hg : Gl X "len" := by rfl) (he : starEach [e] X.env = (false, eval e X.env) :: starEach [] X.env := by rfl) (hpl : (backTo pos (starEach [] X.env)).any (·.1) = false := by rfl) : E X b S (.Call (.Name "len" p) [e] [] pos) (.val (.int k)) S1 :=
  E_cb (pe_callB call_len hg hm bb_len (A_cons ha A_nil he) (by decide) (by decide) he hpl) fun G H σ vs Q st r q => by
    cases r with
    | cons r1 rn => cases rn; exact ⟨_, k, rfl, len_of st.sub r1 hd, q _ G H st (Ex.refl G) (.int _)⟩
/-- len of an own list -/
theorem E_lenO (i : Nat) {x : Str} {l : Bool} {px : Pos} (hm : X.mg "len" = none) (hs : S[i]? = some (.own l xs)) (h : PE X (.Name x px) (tVar i)) (hg : Gl X "len" := by rfl) (he : starEach [.Name x px] X.env = (false, eval (.Name x px) X.env) :: starEach [] X.env := by rfl) (hpl : (backTo pos (starEach [] X.env)).any (·.1) = false := by rfl) :
    E X b S (.Call (.Name "len" p) [.Name x px] [] pos) (.val (.int xs.length)) S :=
  PE.w (pe_callB call_len hg hm bb_len (pa_cons h pa_nil he) (by decide) (by decide) he hpl) fun σ H Q ⟨G, st, q⟩ => by
    obtain ⟨a, vs, h1, ap, h2, r⟩ := st.slotO hs
    exact ⟨_, h1, _, xs.length, rfl, .inl ⟨_, .inl (.inl h2), r.length.symm⟩, q _ G H st (Ex.refl G) (.int _)⟩
theorem E_int1 (hm : X.mg "int" = none) (ha : E X b S e (.val (.int n)) S1) (hg : Gl X "int" := by rfl) (he : starEach [e] X.env = (false, eval e X.env) :: starEach [] X.env := by rfl) (hpl : (backTo pos (starEach [] X.env)).any (·.1) = false := by rfl) : E X b S (.Call (.Name "int" p) [e] [] pos) (.val (.int n)) S1 :=
  E_cb (pe_callTy call_int1 hg hm bb_int (A_cons ha A_nil he) (by decide) (by decide) he hpl) fun G H σ vs Q st r q => by
    cases r with
    | cons r1 rn => cases rn; cases r1; exact .inl ⟨_, rfl, q _ G H st (Ex.refl G) (.int _)⟩
theorem E_intB {k : Bool} (hm : X.mg "int" = none) (ha : E X b S e (.val (.bool k)) S1) (hg : Gl X "int" := by rfl) (he : starEach [e] X.env = (false, eval e X.env) :: starEach [] X.env := by rfl) (hpl : (backTo pos (starEach [] X.env)).any (·.1) = false := by rfl) : E X b S (.Call (.Name "int" p) [e] [] pos) (.val (.int (if k then 1 else 0))) S1 :=
  E_cb (pe_callTy call_int1 hg hm bb_int (A_cons ha A_nil he) (by decide) (by decide) he hpl) fun G H σ vs Q st r q => by
    cases r with
    | cons r1 rn => cases rn; cases r1; exact .inr ⟨_, rfl, q _ G H st (Ex.refl G) (.int _)⟩
theorem E_max2 (hc : X.calm = true) (hm : X.mg "max" = none) (ha : E X b S e (.val (.int n)) S1) (hb : E X b S1 f (.val (.int m)) S2) (hg : Gl X "max" := by rfl) (he : starEach [e, f] X.env = (false, eval e X.env) :: starEach [f] X.env := by rfl) (he2 : starEach [f] X.env = (false, eval f X.env) :: starEach [] X.env := by rfl) (hpl : (backTo pos (starEach [f] X.env)).any (·.1) = false := by rfl) :
    E X b S (.Call (.Name "max" p) [e, f] [] pos) (.val (.int (max n m))) S2 :=
  E_cb (pe_callB (call_max2 hc) hg hm bb_max (A_cons ha (A_cons hb A_nil he2) he) (by decide) (by decide) he hpl) fun G H σ vs Q st r q => by
    cases r with
    | cons r1 rn => cases rn with
      | cons r2 rn =>
        cases rn; cases r1; cases r2
        refine ⟨n, m, rfl, ?_⟩
        have e : (if m > n then m else n) = max n m := by omega
        rw [e]
        exact q _ G H st (Ex.refl G) (.int _)
theorem E_min2 (hc : X.calm = true) (hm : X.mg "min" = none) (ha : E X b S e (.val (.int n)) S1) (hb : E X b S1 f (.val (.int m)) S2) (hg : Gl X "min" := by rfl) (he : starEach [e, f] X.env = (false, eval e X.env) :: starEach [f] X.env := by rfl) (he2 : starEach [f] X.env = (false, eval f X.env) :: starEach [] X.env := by rfl) (hpl : (backTo pos (starEach [f] X.env)).any (·.1) = false := by rfl) :
    E X b S (.Call (.Name "min" p) [e, f] [] pos) (.val (.int (min n m))) S2 :=
  E_cb (pe_callB (call_min2 hc) hg hm bb_min (A_cons ha (A_cons hb A_nil he2) he) (by decide) (by decide) he hpl) fun G H σ vs Q st r q => by
    cases r with
    | cons r1 rn => cases rn with
      | cons r2 rn =>
        cases rn; cases r1; cases r2
        refine ⟨n, m, rfl, ?_⟩
        have e : (if m < n then m else n) = min n m := by omega
        rw [e]
        exact q _ G H st (Ex.refl G) (.int _)
/-- sum, min, max of a list of ints -/
theorem E_sumL (hc : X.calm = true) (hm : X.mg "sum" = none) (ha : E X b S e (.val (.list (ns.map .int))) S1) (hg : Gl X "sum" := by rfl) (he : starEach [e] X.env = (false, eval e X.env) :: starEach [] X.env := by rfl) (hpl : (backTo pos (starEach [] X.env)).any (·.1) = false := by rfl) : E X b S (.Call (.Name "sum" p) [e] [] pos) (.val (.int ns.sum)) S1 :=
  E_cb (pe_callB (cr_sum hc) hg hm bb_sum (A_cons ha A_nil he) (by decide) (by decide) he hpl) fun G H σ vs Q st r q => by
    cases r with
    | cons r1 rn =>
      cases rn
      cases r1 with
      | lst h1 t => rw [t.ints] at h1; exact ⟨_, ns, rfl, .inl (st.sub.rd h1), q _ G H st (Ex.refl G) (.int _)⟩
/-- the least, the greatest of ints -/
def minI : List Int → Int
  | [] => 0
  | n :: ns => ns.foldl min n
def maxI : List Int → Int
  | [] => 0
  | n :: ns => ns.foldl max n
theorem foldl_min : ∀ (ns : List Int) (n : Int), (ns.foldl min n ∈ n :: ns) ∧ ∀ y ∈ n :: ns, ns.foldl min n ≤ y
  | [], n => ⟨List.mem_cons_self, fun y h => by simp at h; subst h; exact Int.le_refl _⟩
  | m :: ns, n => by
    obtain ⟨h1, h2⟩ := foldl_min ns (min n m)
    have h3 := h2 (min n m) List.mem_cons_self
    refine ⟨?_, fun y hy => ?_⟩
    · show ns.foldl min (min n m) ∈ n :: m :: ns
      rcases List.mem_cons.mp h1 with h | h
      · rw [h]
        rcases Int.le_total n m with q | q
        · rw [Int.min_eq_left q]; exact List.mem_cons_self
        · rw [Int.min_eq_right q]; exact List.mem_cons_of_mem _ List.mem_cons_self
      · exact List.mem_cons_of_mem _ (List.mem_cons_of_mem _ h)
    · show ns.foldl min (min n m) ≤ y
      rcases List.mem_cons.mp hy with h | h
      · subst h; omega
      · rcases List.mem_cons.mp h with h | h
        · subst h; omega
        · exact h2 y (List.mem_cons_of_mem _ h)
theorem foldl_max : ∀ (ns : List Int) (n : Int), (ns.foldl max n ∈ n :: ns) ∧ ∀ y ∈ n :: ns, y ≤ ns.foldl max n
  | [], n => ⟨List.mem_cons_self, fun y h => by simp at h; subst h; exact Int.le_refl _⟩
  | m :: ns, n => by
    obtain ⟨h1, h2⟩ := foldl_max ns (max n m)
    have h3 := h2 (max n m) List.mem_cons_self
    refine ⟨?_, fun y hy => ?_⟩
    · show ns.foldl max (max n m) ∈ n :: m :: ns
      rcases List.mem_cons.mp h1 with h | h
      · rw [h]
        rcases Int.le_total n m with q | q
        · rw [Int.max_eq_right q]; exact List.mem_cons_of_mem _ List.mem_cons_self
        · rw [Int.max_eq_left q]; exact List.mem_cons_self
      · exact List.mem_cons_of_mem _ (List.mem_cons_of_mem _ h)
    · show y ≤ ns.foldl max (max n m)
      rcases List.mem_cons.mp hy with h | h
      · subst h; omega
      · rcases List.mem_cons.mp h with h | h
        · subst h; omega
        · exact h2 y (List.mem_cons_of_mem _ h)
theorem minI_spec : ∀ {ns : List Int}, ns ≠ [] → minI ns ∈ ns ∧ ∀ y ∈ ns, minI ns ≤ y
  | [], h => absurd rfl h
  | n :: ns, _ => foldl_min ns n
theorem maxI_spec : ∀ {ns : List Int}, ns ≠ [] → maxI ns ∈ ns ∧ ∀ y ∈ ns, y ≤ maxI ns
  | [], h => absurd rfl h
  | n :: ns, _ => foldl_max ns n
theorem E_minL (hc : X.calm = true) (hm : X.mg "min" = none) (ha : E X b S e (.val (.list (ns.map .int))) S1) (hz : ns ≠ []) (hg : Gl X "min" := by rfl) (he : starEach [e] X.env = (false, eval e X.env) :: starEach [] X.env := by rfl) (hpl : (backTo pos (starEach [] X.env)).any (·.1) = false := by rfl) : E X b S (.Call (.Name "min" p) [e] [] pos) (.val (.int (minI ns))) S1 :=
  E_cb (pe_callB (cr_min hc) hg hm bb_min (A_cons ha A_nil he) (by decide) (by decide) he hpl) fun G H σ vs Q st r q => by
    cases r with
    | cons r1 rn =>
      cases rn
      cases r1 with
      | lst h1 t =>
        rw [t.ints] at h1
        refine ⟨_, ns, rfl, .inl (st.sub.rd h1), List.length_pos_iff.mpr hz, fun m hm hl => ?_⟩
        have s := minI_spec hz
        have e : m = minI ns := Int.le_antisymm (hl _ s.1) (s.2 _ hm)
        rw [e]
        exact q _ G H st (Ex.refl G) (.int _)
theorem E_maxL (hc : X.calm = true) (hm : X.mg "max" = none) (ha : E X b S e (.val (.list (ns.map .int))) S1) (hz : ns ≠ []) (hg : Gl X "max" := by rfl) (he : starEach [e] X.env = (false, eval e X.env) :: starEach [] X.env := by rfl) (hpl : (backTo pos (starEach [] X.env)).any (·.1) = false := by rfl) : E X b S (.Call (.Name "max" p) [e] [] pos) (.val (.int (maxI ns))) S1 :=
  E_cb (pe_callB (cr_max hc) hg hm bb_max (A_cons ha A_nil he) (by decide) (by decide) he hpl) fun G H σ vs Q st r q => by
    cases r with
    | cons r1 rn =>
      cases rn
      cases r1 with
      | lst h1 t =>
        rw [t.ints] at h1
        refine ⟨_, ns, rfl, .inl (st.sub.rd h1), List.length_pos_iff.mpr hz, fun m hm hl => ?_⟩
        have s := maxI_spec hz
        have e : m = maxI ns := Int.le_antisymm (s.2 _ hm) (hl _ s.1)
        rw [e]
        exact q _ G H st (Ex.refl G) (.int _)
/-- tuple(list), list(list or tuple) -/
theorem E_tupleL (hm : X.mg "tuple" = none) (ha : E X b S e (.val (.list xs)) S1) (hg : Gl X "tuple" := by rfl) (he : starEach [e] X.env = (false, eval e X.env) :: starEach [] X.env := by rfl) (hpl : (backTo pos (starEach [] X.env)).any (·.1) = false := by rfl) : E X b S (.Call (.Name "tuple" p) [e] [] pos) (.val (.tuple xs)) S1 :=
  E_cb (pe_callTy call_tuple_of hg hm bb_tuple (A_cons ha A_nil he) (by decide) (by decide) he hpl) fun G H σ vs Q st r q => by
    cases r with
    | cons r1 rn =>
      cases rn
      cases r1 with
      | lst h1 t => exact ⟨_, _, rfl, .inl ⟨.inl (st.sub.rd h1), fun l hl => q _ _ _ (st.new hl) (st.newEx hl) (.tup (.inl (.inl upd_same)) (t.mono (st.newEx hl)))⟩⟩
theorem E_tupleO (i : Nat) {x : Str} {l : Bool} {px : Pos} (hm : X.mg "tuple" = none) (hs : S[i]? = some (.own l xs)) (h : PE X (.Name x px) (tVar i)) (hg : Gl X "tuple" := by rfl) (he : starEach [.Name x px] X.env = (false, eval (.Name x px) X.env) :: starEach [] X.env := by rfl) (hpl : (backTo pos (starEach [] X.env)).any (·.1) = false := by rfl) :
    E X b S (.Call (.Name "tuple" p) [.Name x px] [] pos) (.val (.tuple xs)) S :=
  PE.w (pe_callTy call_tuple_of hg hm bb_tuple (pa_cons h pa_nil he) (by decide) (by decide) he hpl) fun σ H Q ⟨G, st, q⟩ => by
    obtain ⟨a, vs, h1, ap, h2, r⟩ := st.slotO hs
    exact ⟨_, h1, _, _, rfl, .inl ⟨.inl (.inl h2), fun l hl => q _ _ _ (st.new hl) (st.newEx hl) (.tup (.inl (.inl upd_same)) (r.mono (st.newEx hl)))⟩⟩
theorem E_listL (hm : X.mg "list" = none) (ha : E X b S e (.val (.list xs)) S1) (hg : Gl X "list" := by rfl) (he : starEach [e] X.env = (false, eval e X.env) :: starEach [] X.env := by rfl) (hpl : (backTo pos (starEach [] X.env)).any (·.1) = false := by rfl) : E X b S (.Call (.Name "list" p) [e] [] pos) (.new xs) S1 :=
  E_cb (pe_callTy call_list_of hg hm bb_list (A_cons ha A_nil he) (by decide) (by decide) he hpl) fun G H σ vs Q st r q => by
    cases r with
    | cons r1 rn =>
      cases rn
      cases r1 with
      | lst h1 t => exact ⟨_, _, rfl, .inl (.inl (st.sub.rd h1)), fun l hl => let ⟨a, b⟩ := st.newL hl t; q _ _ _ a (Ex.refl G) b⟩
theorem E_listT (hm : X.mg "list" = none) (ha : E X b S e (.val (.tuple xs)) S1) (hg : Gl X "list" := by rfl) (he : starEach [e] X.env = (false, eval e X.env) :: starEach [] X.env := by rfl) (hpl : (backTo pos (starEach [] X.env)).any (·.1) = false := by rfl) : E X b S (.Call (.Name "list" p) [e] [] pos) (.new xs) S1 :=
  E_cb (pe_callTy call_list_of hg hm bb_list (A_cons ha A_nil he) (by decide) (by decide) he hpl) fun G H σ vs Q st r q => by
    cases r with
    | cons r1 rn =>
      cases rn
      cases r1 with
      | tup h1 t => exact ⟨_, _, rfl, .inr (st.sub.sqT h1), fun l hl => let ⟨a, b⟩ := st.newL hl t; q _ _ _ a (Ex.refl G) b⟩
/-! ### isinstance -/
def tyD : PyData → String
  | .none => "NoneType"
  | .bool _ => "bool"
  | .int _ => "int"
  | .str _ => "str"
  | .list _ => "list"
  | .tuple _ => "tuple"
  | .dict ((.none, _) :: _) => "list"
  | .dict _ => "dict"
/-- isinstance of data, of a built-in type -/
def isD (d : PyData) (t : String) : Bool := tyD d == t || (tyD d == "bool" && t == "int")
theorem TyX_of {K : PySem.W.Frag} {G H : Hp} (x : Ex G H) {v : V} {d : PyData} (r : Rp K G v d) : TyX K H v (.type (tyD d)) := by
  cases r with
  | non => exact .base .non
  | bl k => exact .base (.bl k)
  | int i => exact .base (.int i)
  | str y => exact .base (.str y)
  | lst h t =>
    rcases x.rd h with h | ⟨o, h⟩
    · exact .base (.lst h)
    · exact .base (.frz h)
  | tup h t =>
    rcases x.sqT h with (h | ⟨o, h⟩) | ⟨o, its, n, h, c, _⟩
    · exact .base (.tup h)
    · exact .fTuple h
    · exact .kTuple h c
  | dic h t =>
    have e : TyX K H (.ref _) (.type "dict") := .fDict (x.at_ h)
    cases t with
    | nil => exact e
    | @cons k _ _ _ _ _ _ => cases k <;> exact e
  | scr h =>
    rcases x.sqL h with (h | ⟨o, h⟩) | ⟨o, _, _, h, c, _⟩
    · exact .base (.lst h)
    · exact .base (.frz h)
    · exact .kList h c
def goodTy (t : String) : Bool := t == "int" || t == "bool" || t == "str" || t == "list" || t == "tuple" || t == "dict"
def tyNames : List String := ["NoneType", "bool", "int", "str", "list", "tuple", "dict"]
theorem tyD_mem (d : PyData) : tyD d ∈ tyNames := by unfold tyD tyNames; split <;> simp
theorem kit_names : ∀ s ∈ tyNames, ∀ t ∈ ["int", "bool", "str", "list", "tuple", "dict"], kitB s t = some (s == t || (s == "bool" && t == "int")) := by decide +kernel
theorem kit_d {K : PySem.W.Frag} (d : PyData) {t : String} (h : goodTy t = true) : PySem.W.kitOne K (.type (tyD d)) (.type t) = some (isD d t) := by
  refine kit_ty (kit_names _ (tyD_mem d) t ?_)
  simp only [goodTy, Bool.or_eq_true, beq_iff_eq] at h
  rcases h with ((((h | h) | h) | h) | h) | h <;> simp [h]
theorem E_isi {t : Str} {T : String} {pt : Pos} (hm : X.mg "isinstance" = none) (hmt : X.mg t = none) (ha : E X b S e (.val d) S1) (hv : bootBuiltins t = some (.type T)) (hT : goodTy T = true) (hgt : Gl X t := by rfl) (hg : Gl X "isinstance" := by rfl)
    (he : starEach [e, .Name t pt] X.env = (false, eval e X.env) :: starEach [.Name t pt] X.env := by rfl) (he2 : starEach [.Name t pt] X.env = (false, eval (.Name t pt) X.env) :: starEach [] X.env := by rfl) (hpl : (backTo pos (starEach [.Name t pt] X.env)).any (·.1) = false := by rfl)
    (hn : t ≠ "__name__" := by decide) (hd : (t == ("__debug__" : Str)) = false := by decide) :
    E X b S (.Call (.Name "isinstance" p) [e, .Name t pt] [] pos) (.val (.bool (isD d T))) S1 :=
  PE.w (pe_callB call_isi hg hm bb_isinstance (pa_cons ha (pa_cons (pe_bltn (v := .ty T) hgt hmt hv rfl hn hd) pa_nil he2) he) (by decide) (by decide) he hpl) fun σ H Q ⟨G, st, q⟩ => ⟨G, st, fun v G2 H2 st2 x r => by
    exact ⟨v, .ty T, _, _, _, rfl, .ty T, TyX_of st2.sub r, kit_d d hT, q _ G2 H2 st2 x (.bl _)⟩⟩
/-- isinstance(e, (t, u)) -/
theorem E_isi2 {t u : Str} {T U : String} {pt pu ptt : Pos} {j : Nat} (hm : X.mg "isinstance" = none) (hmt : X.mg t = none) (hmu : X.mg u = none) (ha : E X b S e (.val d) S1) (hv : bootBuiltins t = some (.type T)) (hvu : bootBuiltins u = some (.type U)) (hT : goodTy T = true) (hU : goodTy U = true) (hgt : Gl X t := by rfl) (hgu : Gl X u := by rfl) (hg : Gl X "isinstance" := by rfl)
    (he : starEach [e, .Tuple [.Name t pt, .Name u pu] j ptt] X.env = (false, eval e X.env) :: starEach [.Tuple [.Name t pt, .Name u pu] j ptt] X.env := by rfl) (he2 : starEach [.Tuple [.Name t pt, .Name u pu] j ptt] X.env = (false, eval (.Tuple [.Name t pt, .Name u pu] j ptt) X.env) :: starEach [] X.env := by rfl)
    (he3 : starEach [.Name t pt, .Name u pu] X.env = (false, eval (.Name t pt) X.env) :: starEach [.Name u pu] X.env := by rfl) (he4 : starEach [.Name u pu] X.env = (false, eval (.Name u pu) X.env) :: starEach [] X.env := by rfl) (hpl : (backTo pos (starEach [.Tuple [.Name t pt, .Name u pu] j ptt] X.env)).any (·.1) = false := by rfl)
    (hn : t ≠ "__name__" := by decide) (hd : (t == ("__debug__" : Str)) = false := by decide) (hn' : u ≠ "__name__" := by decide) (hd' : (u == ("__debug__" : Str)) = false := by decide) :
    E X b S (.Call (.Name "isinstance" p) [e, .Tuple [.Name t pt, .Name u pu] j ptt] [] pos) (.val (.bool (isD d T || isD d U))) S1 :=
  PE.w (pe_callB call_isiT hg hm bb_isinstance (pa_cons ha (pa_cons (pe_tup (pa_cons (pe_bltn (v := .ty T) hgt hmt hv rfl hn hd) (pa_cons (pe_bltn (v := .ty U) hgu hmu hvu rfl hn' hd') pa_nil he4) he3)) pa_nil he2) he) (by decide) (by decide) he hpl) fun σ H Q ⟨G, st, q⟩ => ⟨G, st, fun v G2 H2 st2 x r => by
    refine ⟨by show 2 ≤ sizeLine; decide, fun p hp => ?_⟩
    have x3 : Ex G2 (upd G2 p (.tup [.ty T, .ty U])) := st2.newEx hp
    have s3 := st2.new (o := .tup [.ty T, .ty U]) hp
    refine ⟨v, p, _, _, [.type T, .type U], _, rfl, upd_same, .cons (.ty T) (.cons (.ty U) .nil), TyX_of s3.sub (r.mono x3), ?_, q _ _ _ s3 (x.trans x3) (.bl _)⟩
    show PySem.W.kitAny X.K (.type (tyD d)) [.type T, .type U] = _
    refine kitAny_cons (kit_d d hT) (fun h => ?_) (fun h => by rw [h]; rfl)
    rw [h]
    refine kitAny_cons (kit_d d hU) (fun h2 => by rw [h2]; rfl) (fun h2 => by rw [h2]; rfl)⟩
end
end D

set_option Elab.async false
set_option linter.all false
set_option maxRecDepth 100000
set_option maxHeartbeats 1000000
set_option autoImplicit false
/-! Dx: enumerate of a tuple, sum and sorted of a tuple. -/
namespace PySem
theorem meets_enum_newT {v : Value} {o : Obj} {H : Heap → Prop} (B : Begins v o H) :
    Meets (Builtin.«enumerate.__new__» ⟨[.type "enumerate", v], []⟩) (fun _ R s => H s.heap ∧
      R (.ok (.ret (.ref (s.heap.push o).objs.size))) { s with heap := (s.heap.push o).push { cls := .type "enumerate", data := .fields #[.none, .bool false, .ref s.heap.objs.size, rawInt 0, .none, .none] } }) :=
  .of_wp fun prog w A R s h => by
    obtain ⟨hE0, gE, dE, tk, oS⟩ := s; obtain ⟨hBeg, h⟩ := h
    have hSub := sub_enumerate
    have qIt : ∀ {A' : Around} {E : Value → Shared → Prop} {Q : Value → Shared → Prop}, Q (.ref hE0.objs.size) ⟨hE0.push o, gE, dE, tk, oS⟩ → wpAny (model prog w) A' (pyIter v) Q E ⟨hE0, gE, dE, tk, oS⟩ :=
      fun q => B.iter prog w _ _ ⟨hE0, gE, dE, tk, oS⟩ _ hBeg q
    wp_walk using qIt
    refine wpAny_stack_any fun stt => wpAny_pure ?_
    split
    · rename_i c _ _ _ _ _
      cases (c == Value.type "enumerate")
      · wp_walk using qIt
        exact ⟨_, rfl, h⟩
      · wp_walk using qIt
        exact ⟨_, rfl, h⟩
    · wp_walk using qIt
      exact ⟨_, rfl, h⟩
section
variable {prog : Program} {w : World} {A : Around} {E : Value → Shared → Prop} {s : Shared}
theorem enum_begins1 {v : Value} {o : Obj} {H : Heap → Prop} {Q : Value → Shared → Prop} (B : Begins v o H) (hBeg : H s.heap)
    (h : ∀ h', IsEnum h' (s.heap.objs.size + 1) s.heap.objs.size 0 .none → h'.get? s.heap.objs.size = some o → h'.objs.size = s.heap.objs.size + 2 →
      (∀ c o, s.heap.get? c = some o → h'.get? c = some o) → Q (.ref (s.heap.objs.size + 1)) { s with heap := h' }) :
    wpAny (model prog w) A (call (.type "enumerate") [v]) Q E s := by
  refine callType_new F.called_enumerate (by decide) (F.typeCall_enumerate_1 _) (F.newCall_enumerate_1 _)
    (fun obj => F.args_object_init_2 obj _) F.entry_enumerate_new
    (meets_enum_newT B) ⟨hBeg, ?_⟩
  have hSiz : (s.heap.push o).objs.size = s.heap.objs.size + 1 := Heap.size_push ..
  show _ ∧ _
  rw [hSiz]
  have hEn : IsEnum ((s.heap.push o).push { cls := .type "enumerate", data := .fields #[.none, .bool false, .ref s.heap.objs.size, rawInt 0, .none, .none] }) (s.heap.objs.size + 1) s.heap.objs.size 0 .none := by
    have := Heap.get?_push_size (s.heap.push o) (o := { cls := .type "enumerate", data := .fields #[.none, .bool false, .ref s.heap.objs.size, rawInt 0, .none, .none] }) rfl
    rw [hSiz] at this; exact this
  refine ⟨⟨_, hEn, rfl⟩, h _ hEn (Heap.get?_push_of_some _ (Heap.get?_push_size _ B.free)) (by rw [Heap.size_push, hSiz]) fun c o x => Heap.get?_push_of_some _ (Heap.get?_push_of_some _ x)⟩
end
end PySem

namespace L2
open PySem PySem.Spec PyProof.Rows
theorem istuple_of {h : Heap} {a : Addr} {items : Array Value} (t : IsTup h a items) : h.IsTuple a items := by
  obtain ⟨o, e, c, n, dE⟩ := t
  exact ⟨o, e, c, n, dE⟩
/-- enumerate(tuple): each item in a nw1 pair -/
def IteT (K : PySem.W.Frag) (a : Addr) : It :=
  ⟨fun i H => ∃ (xs : List V) (x : V), SqT K H a xs ∧ xs[i]? = some x, fun i H v H' => ∃ T x, v = .ref T ∧ H T = none ∧ H' = upd H T (.tup [.int (i : Nat), x]) ∧ ∀ xs, SqT K H a xs → xs[i]? = some x, fun i H => ∃ xs : List V, SqT K H a xs ∧ xs.length ≤ i⟩
theorem turn_enumT {P : Program} {w : World} {K : PySem.W.Frag} {elts : List Expr} {kk : Nat} {tpos : Pos} (a e it : Addr) :
    Turn P w K (.Tuple elts kk tpos) (IteT K a) [e, it] e (fun i h => (∃ ol, IsEnum h e it ((i : Nat) : Int) ol) ∧ h.IsTupleIter it a i ∧ e ≠ it) where
  mem := by simp
  obj := fun i h stt c hcn => by
    obtain ⟨⟨ol, hEn⟩, ⟨o, hOb, hc, hDa⟩, _⟩ := stt
    have ee : c = e ∨ c = it := by simpa using hcn
    rcases ee with z | z
    · rw [z]; exact ⟨_, hEn, fun v q => nomatch q⟩
    · rw [z]; exact ⟨o, hOb, fun v q => by rw [hDa] at q; cases q⟩
  keep := fun i h h' stt k => let ⟨⟨ol, hEn⟩, hi, hNe⟩ := stt; ⟨⟨ol, k e (by simp) _ hEn⟩, hi.at fun o q => k it (by simp) o q, hNe⟩
  item := by
    intro X hP hw hK hc i pn s σ H E I hFp stt hGo
    subst hP hw hK
    obtain ⟨⟨ol, hEn⟩, hIt, hNe⟩ := stt
    obtain ⟨xs, x, hSq, hXi⟩ := hGo
    obtain ⟨its, rV, p, hSiz⟩ := I.tuple hSq
    obtain ⟨u, hu, rU⟩ := rV.get hXi
    have hEl : e < s.heap.objs.size := Heap.lt_size hEn
    have hIl : it < s.heap.objs.size := by obtain ⟨_, q, _⟩ := hIt; exact Heap.lt_size q
    have hte : a ≠ e := fun z => by
      obtain ⟨o, q, c, _⟩ := p
      rw [z] at q
      have he2 := hEn
      unfold IsEnum at he2
      rw [he2] at q
      cases q
      exact absurd (Value.type.inj c) (by decide)
    have hti : a ≠ it := fun z => by
      obtain ⟨o, q, c, _⟩ := p
      obtain ⟨o2, q2, c2, _⟩ := hIt
      rw [z, q2] at q
      cases q
      rw [c2] at c
      exact absurd (Value.type.inj c) (by decide)
    have lti : i < its.toArray.size := by
      have := (List.getElem?_eq_some_iff.mp hu).1
      simpa using this
    refine wpAny_pyNext_enum_itemD (Draws.tuple (prog := X.prog) (w := X.w) (A := X.A.in1) (I.ok.hd hc) it a hti its.toArray) hEn ⟨hIt, istuple_of p⟩ lti hNe (by simp [hNe, Ne.symm hte]) fun x2 h' tk hP hOb hit' hTu hSz hKp => ?_
    have e2 : x2 = u := by
      have q : its.toArray[i]? = some x2 := hP
      have q2 : its[i]? = some x2 := by simpa using q
      rw [hu] at q2
      exact (Option.some.inj q2).symm
    subst e2
    refine ⟨_, rfl, wpAny_letOwnedTupleGo_enum (s := { s with heap := h', toks := tk + 1 }) hOb fun h'' he' sb => ?_⟩
    have hTu2 : h''.get? s.heap.objs.size = some { cls := .type "tuple", data := .seq #[.int i tk, x2] } := (sb.2 _ (Nat.ne_of_gt hEl)).trans hTu
    have nw1 : ObjOk X.prog X.w (upd H s.heap.objs.size (.tup [.int (i : Nat), x])) h'' s.heap.objs.size (.tup [.int (i : Nat), x]) :=
      ⟨by show 2 ≤ sizeLine; decide, [.int i tk, x2], .cons ⟨_, rfl⟩ (.cons rU .nil), ⟨_, hTu2, rfl, _, rfl⟩⟩
    have J1 : Inv X pn σ (upd H s.heap.objs.size (.tup [.int (i : Nat), x])) { s with heap := h'', toks := tk + 1 } :=
      I.turnedNew (ch := [e, it]) (fun c oc hcn q => (sb.2 c (fun z => hcn (by simp [z]))).trans (hKp c oc (fun z => hcn (by simp [z])) (fun z => hcn (by simp [z])) q)) hFp (Nat.le_refl _) nw1
    refine ⟨.ref s.heap.objs.size, _, J1, rfl, ⟨_, x, rfl, I.hok.fresh (Nat.le_refl _), rfl, fun ys hy => by rw [I.tuple_inj hy hSq]; exact hXi⟩, ⟨⟨x2, ?_⟩, hit'.1.at fun o q => (sb.2 it (Ne.symm hNe)).trans q, hNe⟩, fun c hcn => ?_⟩
    · have e1 : ((i + 1 : Nat) : Int) = (i : Int) + 1 := by omega
      rw [e1]; exact he'
    · have hcl : c < s.heap.objs.size := by
        have ee : c = e ∨ c = it := by simpa using hcn
        rcases ee with z | z
        · rw [z]; exact hEl
        · rw [z]; exact hIl
      rw [upd_ne (Nat.ne_of_lt hcl)]
      exact (hFp c hcn).1
  done := by
    intro X hP hw hK hc i pn s σ H E I hFp stt hGo
    subst hP hw hK
    obtain ⟨⟨ol, hEn⟩, hIt, hNe⟩ := stt
    obtain ⟨xs, hSq, hXi⟩ := hGo
    obtain ⟨its, rV, p, hSiz⟩ := I.tuple hSq
    obtain ⟨f0, f1, f2, f3, f4, f5⟩ := hFp it (by simp)
    have hl := rV.length
    have hti : a ≠ it := fun z => by
      obtain ⟨o, q, c, _⟩ := p
      obtain ⟨o2, q2, c2, _⟩ := hIt
      rw [z, q2] at q
      cases q
      rw [c2] at c
      exact absurd (Value.type.inj c) (by decide)
    unfold pyNext
    refine wpAny_bind (wpAny_attempt (wpAny_callSpecial?_slot (name := Str.ofString "__next__") ⟨_, hEn, rfl⟩ F.slot_enumerate_next
      (wpAny_call_entry F.slot_enumerate_next ⟨_, hEn, rfl⟩ F.entry_enumerate_next ?_ (F.args_enumerate_next_1 _))))
    show wpAny _ _ (field (.ref e) 2 >>= _) _ _ _
    refine wpAny_bind (wpAny_field hEn rfl (x := .ref it) rfl ?_)
    refine wpAny_bind (wpAny_nextOf_tuple_end (I.ok.hd hc) hIt (istuple_of p) (by simp; omega) fun h' x he' hx' => ?_)
    obtain ⟨o, hOb, hc2⟩ := hx'
    refine wpAny_bind (wpAny_isInstance (T := "StopIteration") (b := true) ⟨o, hOb, hc2⟩ isSubtype_stop ?_)
    exact wpAny_pure ⟨rfl, I.turned (t' := s.toks) (fun c o hcn q => he' c o hcn q) f0 f1 f3 f4 f5⟩
  self := fun A i s Q E stt h => let ⟨⟨_, hEn⟩, _⟩ := stt; wpAny_pyIter_enum hEn h
def iEnumT (K : PySem.W.Frag) (ta : TA) : TI := fun σ H R => ta σ H fun vs H1 => ∃ a xs, vs = [.ref a] ∧ SqT K H1 a xs ∧ R (IteT K a) H1
theorem pi_enumT {X : Cx} {e : Expr} {ta : TA} {p pos tpos : Pos} {elts : List Expr} {kk : Nat} (hGo : Gl X "enumerate") (hm : X.mg "enumerate" = none) (ha : PA X [e] ta) (hs : starEach [e] X.env = [(false, eval e X.env)] := by rfl) :
    PI X (.Tuple elts kk tpos) (.Call (.Name "enumerate" p) [e] [] pos) (iEnumT X.K ta) := by
  refine ⟨fun pn s σ H R I h => ?_⟩
  refine Call_ (ld_blt I hGo hm boot_enumerate (PyProof.Rows.callWith_type1 (thn (ha.run pos pn s σ H _ I h) fun us s1 ⟨vs, H1, J1, r1, qIt⟩ => ?_) hs rfl))
  obtain ⟨a, xs, ex, hSq, q⟩ := qIt
  subst ex
  cases r1 with
  | cons r rr =>
    cases rr
    cases r
    obtain ⟨its, rV, p', hSiz⟩ := J1.tuple hSq
    refine enum_begins1 (begins_tuple a its.toArray) (istuple_of p') fun h' hEn hIt hSz hKp => wpAny_pyIter_enum hEn ?_
    have J2 : Inv X pn σ H1 { s1 with heap := h' } := J1.kept (t' := s1.toks) hKp
    refine ⟨s1.heap.objs.size + 1, [s1.heap.objs.size + 1, s1.heap.objs.size], _, _, H1, rfl, J2, turn_enumT a (s1.heap.objs.size + 1) s1.heap.objs.size, ⟨⟨.none, hEn⟩, ⟨_, hIt, rfl, rfl⟩, Nat.succ_ne_self _⟩, fun c hcn => ?_, q⟩
    have ee : c = s1.heap.objs.size + 1 ∨ c = s1.heap.objs.size := by simpa using hcn
    have hLe : s1.heap.objs.size ≤ c := by
      rcases ee with z | z
      · rw [z]; exact Nat.le_add_right _ _
      · rw [z]; exact Nat.le_refl _
    exact J1.fpOk hLe (J1.hok.fresh hLe)
end L2

set_option Elab.async false
set_option linter.all false
set_option maxRecDepth 100000
set_option maxHeartbeats 1000000
set_option autoImplicit false
/-! Dl2: subscripts, slices, what is walked, comprehensions. -/
namespace D
open PySem PySem.Spec PyProof.Rows L2
section
variable {X : Cx} {tb : Tbs} {b : Bx tb} {S S1 S2 S3 : List Sl} {e f g : Expr} {es : List Expr} {r : Rs} {d da db : PyData} {xs ys : List PyData} {pos p : Pos} {c c1 c2 : Bool} {n m i : Int} {ns : List Int}
/-! ### subscripts -/
theorem RpA.at_ {K : PySem.W.Frag} {G : Hp} {vs : List V} (r : RpA K G vs xs) (h : atI xs i = some d) : ∃ v, atI vs i = some v ∧ Rp K G v d := by
  unfold atI at h ⊢
  rw [r.length]
  cases q : ixN xs.length i with
  | none => rw [q] at h; cases h
  | some j =>
    rw [q] at h
    exact r.get h
theorem E_ixL (ha : E X b S e (.val (.list xs)) S1) (hb : E X b S1 f (.val (.int i)) S2) (h : atI xs i = some d) (hs : PlainIx f := by exact fun _ _ => rfl) : E X b S (.Subscript e f pos) (.val d) S2 :=
  E_ix ix_list (fun G H σ v w Q st r1 r2 q => by
    cases r2
    cases r1 with
    | lst h1 a1 =>
      obtain ⟨z, hz, rz⟩ := a1.at_ h
      exact ⟨_, _, _, z, rfl, rfl, .inl (st.sub.rd h1), hz, q z G H st (Ex.refl G) rz⟩) hs ha hb
theorem E_ixT (ha : E X b S e (.val (.tuple xs)) S1) (hb : E X b S1 f (.val (.int i)) S2) (h : atI xs i = some d) (hs : PlainIx f := by exact fun _ _ => rfl) : E X b S (.Subscript e f pos) (.val d) S2 :=
  E_ix ix_tup (fun G H σ v w Q st r1 r2 q => by
    cases r2
    cases r1 with
    | tup h1 a1 =>
      obtain ⟨z, hz, rz⟩ := a1.at_ h
      exact ⟨_, _, _, z, rfl, rfl, st.sub.sqT h1, hz, q z G H st (Ex.refl G) rz⟩) hs ha hb
theorem atI_map {α β : Type} (f : α → β) {l : List α} {x : α} (h : atI l i = some x) : atI (l.map f) i = some (f x) := by
  unfold atI at h ⊢
  rw [List.length_map]
  cases q : ixN l.length i with
  | none => rw [q] at h; cases h
  | some j =>
    rw [q] at h
    show (l.map f)[j]? = some (f x)
    have h' : l[j]? = some x := h
    rw [List.getElem?_map, h'] <;> rfl
theorem E_ixLi (ha : E X b S e (.val (.list (ns.map .int))) S1) (hb : E X b S1 f (.val (.int i)) S2) (h : atI ns i = some n) (hs : PlainIx f := by exact fun _ _ => rfl) : E X b S (.Subscript e f pos) (.val (.int n)) S2 := E_ixL ha hb (atI_map PyData.int h) hs
theorem E_ixTi (ha : E X b S e (.val (.tuple (ns.map .int))) S1) (hb : E X b S1 f (.val (.int i)) S2) (h : atI ns i = some n) (hs : PlainIx f := by exact fun _ _ => rfl) : E X b S (.Subscript e f pos) (.val (.int n)) S2 := E_ixT ha hb (atI_map PyData.int h) hs
/-- the script's item -/
theorem E_ixS (ha : E X b S e (.val (scrD ns)) S1) (hb : E X b S1 f (.val (.int i)) S2) (h : atI ns i = some n) (hs : PlainIx f := by exact fun _ _ => rfl) : E X b S (.Subscript e f pos) (.val (.int n)) S2 :=
  E_ix ix_list (fun G H σ v w Q st r1 r2 q => by
    cases r2
    generalize hd : scrD ns = d at r1
    cases r1 with
    | @scr a ms h1 =>
      have e : ms = ns := by
        simp only [PyData.dict.injEq, List.cons.injEq, Prod.mk.injEq, PyData.tuple.injEq, and_true, true_and] at hd
        exact (List.map_inj_right (fun x y z => by injection z)).mp hd.symm
      subst e
      exact ⟨_, _, _, .int n, rfl, rfl, st.sub.sqL h1, atI_map V.int h, q _ G H st (Ex.refl G) (.int n)⟩
    | dic h1 t =>
      cases t with
      | nil => cases hd
      | @cons k _ _ _ _ _ _ => cases k <;> cases hd
    | _ => cases hd) hs ha hb
/-- an own list's item -/
theorem E_ixO (k : Nat) {x : Str} {l : Bool} {px : Pos} (hk : S[k]? = some (.own l xs)) (hx : PE X (.Name x px) (tVar k)) (hb : E X b S f (.val (.int i)) S) (h : atI xs i = some d) (hs : PlainIx f := by exact fun _ _ => rfl) : E X b S (.Subscript (.Name x px) f pos) (.val d) S :=
  PE.w (pe_ix ix_list hx hb hs) fun σ H Q ⟨G, st, q⟩ => by
    obtain ⟨a, vs, h1, ap, h2, r⟩ := st.slotO hk
    refine ⟨_, h1, G, st, fun w G3 H3 st3 x3 r2 => ?_⟩
    cases r2
    obtain ⟨a3, vs3, h13, _, h23, r3⟩ := st3.slotO hk
    have e : a3 = a := by rw [h1] at h13; cases h13; rfl
    subst e
    obtain ⟨z, hz, rz⟩ := r3.at_ h
    exact ⟨_, _, _, z, rfl, rfl, .inl (.inl h23), hz, q z G3 H3 st3 x3 rz⟩
/-! ### slices -/
def cut {α : Type} (xs : List α) (lo hi : Option Int) : List α := (xs.drop (HT.sIx xs.length 0 lo)).take (HT.sIx xs.length xs.length hi - HT.sIx xs.length 0 lo)
theorem cut_map {α β : Type} (f : α → β) (xs : List α) (lo hi : Option Int) : cut (xs.map f) lo hi = (cut xs lo hi).map f := by
  unfold cut
  rw [List.length_map, ← List.map_drop, ← List.map_take]
theorem RpA.cut {K : PySem.W.Frag} {G : Hp} {vs : List V} (r : RpA K G vs xs) (lo hi : Option Int) : RpA K G (cutV vs lo hi) (cut xs lo hi) := by
  unfold cutV D.cut
  rw [r.length]
  exact RpA.take _ (RpA.drop _ r)
/-- a part of a slice -/
def tOp' {tb : Tbs} (K : PySem.W.Frag) (b : Bx tb) (S : List Sl) (o : Option Int) (S' : List Sl) : TO := fun σ H Q => ∃ G, StOk K b G H σ S ∧ ∀ G2 H2, StOk K b G2 H2 σ S' → Ex G G2 → Q o H2
abbrev O {tb : Tbs} (X : Cx) (b : Bx tb) (S : List Sl) (e : Option Expr) (o : Option Int) (S' : List Sl) : Prop := PO X e (tOp' X.K b S o S')
theorem PO.w {o : Option Expr} {t t' : TO} (h : PO X o t) (k : ∀ σ H Q, t' σ H Q → t σ H Q) : PO X o t' := ⟨fun pins s σ H Q I q => h.run pins s σ H Q I (k σ H Q q)⟩
theorem O_none : O X b S none none S := PO.w po_none fun σ H Q ⟨G, st, q⟩ => q G H st (Ex.refl G)
theorem O_some (h : E X b S e (.val (.int i)) S1) : O X b S (some e) (some i) S1 := PO.w (po_some h) fun σ H Q ⟨G, st, q⟩ => ⟨G, st, fun v G2 H2 st2 x r => by cases r; exact ⟨i, rfl, q G2 H2 st2 x⟩⟩
variable {lo hi : Option Expr} {l u : Option Int} {p2 : Pos}
theorem E_slT (ha : E X b S e (.val (.tuple xs)) S1) (hl : O X b S1 lo l S2) (hu : O X b S2 hi u S3) : E X b S (.Subscript e (.Slice lo hi none p2) pos) (.val (.tuple (cut xs l u))) S3 :=
  PE.w (pe_slice sl_tupA ha hl hu) fun σ H Q ⟨G, st, q⟩ => ⟨G, st, fun v G2 H2 st2 x r => ⟨G2, st2, fun G3 H3 st3 x3 => ⟨G3, st3, fun G4 H4 st4 x4 => by
    cases r with
    | tup h1 a1 =>
      have x24 := x3.trans x4
      refine ⟨_, _, rfl, st4.sub.sqT (x24.sqT h1), fun hw => ?_, fun _ p hp => ?_⟩
      · refine q _ G4 H4 st4 (x.trans x24) (.tup (x24.sqT h1) ?_)
        have e : cut xs l u = xs := by
          unfold cut
          rw [← a1.length, hw.1, hw.2, List.drop_zero, Nat.sub_zero, a1.length, List.take_length]
        rw [e]
        exact a1.mono x24
      · exact q _ _ _ (st4.new hp) (x.trans (x24.trans (st4.newEx hp))) (.tup (.inl (.inl upd_same)) (((a1.cut l u).mono x24).mono (st4.newEx hp)))⟩⟩⟩
theorem E_slL (ha : E X b S e (.val (.list xs)) S1) (hl : O X b S1 lo l S2) (hu : O X b S2 hi u S3) : E X b S (.Subscript e (.Slice lo hi none p2) pos) (.new (cut xs l u)) S3 :=
  PE.w (pe_slice sl_list ha hl hu) fun σ H Q ⟨G, st, q⟩ => ⟨G, st, fun v G2 H2 st2 x r => ⟨G2, st2, fun G3 H3 st3 x3 => ⟨G3, st3, fun G4 H4 st4 x4 => by
    cases r with
    | lst h1 a1 =>
      have x24 := x3.trans x4
      refine ⟨_, _, rfl, .inl (st4.sub.rd (x24.rd h1)), fun p hp => ?_⟩
      obtain ⟨s5, r5⟩ := st4.newL hp ((a1.cut l u).mono x24)
      exact q _ _ _ s5 (x.trans x24) r5⟩⟩⟩
theorem E_slO (k : Nat) {x : Str} {fl : Bool} {px : Pos} (hk : S[k]? = some (.own fl xs)) (hx : PE X (.Name x px) (tVar k)) (hl : O X b S lo l S) (hu : O X b S hi u S) : E X b S (.Subscript (.Name x px) (.Slice lo hi none p2) pos) (.new (cut xs l u)) S :=
  PE.w (pe_slice sl_list hx hl hu) fun σ H Q ⟨G, st, q⟩ => by
    obtain ⟨a, vs, h1, ap, h2, r⟩ := st.slotO hk
    refine ⟨_, h1, G, st, fun G3 H3 st3 x3 => ⟨G3, st3, fun G4 H4 st4 x4 => ?_⟩⟩
    obtain ⟨a3, vs3, h13, _, h23, r3⟩ := st4.slotO hk
    have e : a3 = a := by rw [h1] at h13; cases h13; rfl
    subst e
    refine ⟨_, _, rfl, .inl (.inl h23), fun p hp => ?_⟩
    obtain ⟨s5, r5⟩ := st4.newL hp (r3.cut l u)
    exact q _ _ _ s5 (x3.trans x4) r5
end

/-! ### what is walked -/
abbrev SCond := L2.St → L2.St → List Sl → Prop
def NoC : SCond := fun _ _ _ => True
/-- the own list of the slot k stands at its place -/
def OwnC (k : Nat) (l : Bool) (xs : List PyData) : SCond := fun σ σ' S => σ'[k]? = σ[k]? ∧ S[k]? = some (.own l xs)
structure WalkD (tb : Tbs) (K : PySem.W.Frag) (J : It) (ds : List PyData) (C : L2.St → List Sl → Prop) (G1 : Hp) : Prop where
  goes : ∀ (b : Bx tb) (i : Nat) G H σ S, Ex G1 G → StOk K b G H σ S → C σ S → i < ds.length → J.go i H
  stops : ∀ (b : Bx tb) G H σ S, Ex G1 G → StOk K b G H σ S → C σ S → J.stop ds.length H
  yields : ∀ (b : Bx tb) (i : Nat) (d : PyData) G H σ S x H', Ex G1 G → StOk K b G H σ S → C σ S → ds[i]? = some d → J.yld i H x H' → ∃ G', StOk K b G' H' σ S ∧ Ex G G' ∧ Rp K G' x d
def tI {tb : Tbs} (K : PySem.W.Frag) (b : Bx tb) (S : List Sl) (ds : List PyData) (C : SCond) (S' : List Sl) : TI := fun σ H R => ∃ G, StOk K b G H σ S ∧ ∀ J G2 H2, StOk K b G2 H2 σ S' → Ex G G2 → C σ σ S' → WalkD tb K J ds (C σ) G2 → R J H2
abbrev IT {tb : Tbs} (X : Cx) (b : Bx tb) (S : List Sl) (tg it : Expr) (ds : List PyData) (C : SCond) (S' : List Sl) : Prop := PI X tg it (tI X.K b S ds C S')
section
variable {X : Cx} {tb : Tbs} {b : Bx tb} {S S1 S2 S3 : List Sl} {e f tg it : Expr} {es : List Expr} {d : PyData} {xs ys ds : List PyData} {pos p : Pos} {n m i : Int}
theorem PI.w {t t' : TI} (h : PI X tg it t) (k : ∀ σ H Q, t' σ H Q → t σ H Q) : PI X tg it t' := ⟨fun pins s σ H R I q => h.run pins s σ H R I (k σ H R q)⟩
theorem I_list (h : E X b S e (.val (.list ds)) S1) : IT X b S tg e ds NoC S1 :=
  PI.w (pi_list h) fun σ H Q ⟨G, st, q⟩ => ⟨G, st, fun v G2 H2 st2 x r => by
    cases r with
    | @lst a vs _ h1 t =>
      refine ⟨a, rfl, ⟨_, .inl (st2.sub.rd h1)⟩, q _ G2 H2 st2 x trivial ?_⟩
      have hl : ∀ {tb : Tbs} {b : Bx tb} {G H : Hp} {σ : L2.St} {S : List Sl}, Ex G2 G → StOk X.K b G H σ S → SqL X.K H a vs := fun x3 st3 => .inl (st3.sub.rd (x3.rd h1))
      have w := walk_list (K := X.K) (a := a) (xs := vs)
      refine ⟨fun b i G H σ S x3 st3 _ hi => w.goes i H (by rw [t.length]; exact hi) (hl x3 st3), fun b G H σ S x3 st3 _ => by rw [← t.length]; exact w.stops H (hl x3 st3), fun b i d G H σ S x H' x3 st3 _ hd y => ?_⟩
      obtain ⟨e1, e2⟩ := w.yields i H x H' (by rw [t.length]; exact (List.getElem?_eq_some_iff.mp hd).1) (hl x3 st3) y
      subst e1
      obtain ⟨v, hv, rv⟩ := t.get hd
      rw [e2] at hv
      cases hv
      exact ⟨G, st3, Ex.refl G, rv.mono x3⟩⟩
theorem I_tup (h : E X b S e (.val (.tuple ds)) S1) : IT X b S tg e ds NoC S1 :=
  PI.w (pi_tup h) fun σ H Q ⟨G, st, q⟩ => ⟨G, st, fun v G2 H2 st2 x r => by
    cases r with
    | @tup a vs _ h1 t =>
      refine ⟨a, rfl, ⟨_, st2.sub.sqT h1⟩, q _ G2 H2 st2 x trivial ?_⟩
      have hl : ∀ {tb : Tbs} {b : Bx tb} {G H : Hp} {σ : L2.St} {S : List Sl}, Ex G2 G → StOk X.K b G H σ S → SqT X.K H a vs := fun x3 st3 => st3.sub.sqT (x3.sqT h1)
      have w := walk_tup (K := X.K) (a := a) (xs := vs)
      refine ⟨fun b i G H σ S x3 st3 _ hi => w.goes i H (by rw [t.length]; exact hi) (hl x3 st3), fun b G H σ S x3 st3 _ => by rw [← t.length]; exact w.stops H (hl x3 st3), fun b i d G H σ S x H' x3 st3 _ hd y => ?_⟩
      obtain ⟨e1, e2⟩ := w.yields i H x H' (by rw [t.length]; exact (List.getElem?_eq_some_iff.mp hd).1) (hl x3 st3) y
      subst e1
      obtain ⟨v, hv, rv⟩ := t.get hd
      rw [e2] at hv
      cases hv
      exact ⟨G, st3, Ex.refl G, rv.mono x3⟩⟩
/-- over an own list that stays -/
theorem I_own (k : Nat) {x : Str} {l : Bool} {px : Pos} (hk : S[k]? = some (.own l ds)) (h : PE X (.Name x px) (tVar k)) : IT X b S tg (.Name x px) ds (OwnC k l ds) S :=
  PI.w (pi_list h) fun σ H Q ⟨G, st, q⟩ => by
    obtain ⟨a, vs, h1, ap, h2, r⟩ := st.slotO hk
    refine ⟨_, h1, a, rfl, ⟨vs, .inl (.inl h2)⟩, q _ G H st (Ex.refl G) ⟨rfl, hk⟩ ?_⟩
    have hl : ∀ {tb : Tbs} {b : Bx tb} {G H : Hp} {σ' : L2.St} {S : List Sl}, StOk X.K b G H σ' S → OwnC k l ds σ σ' S → ∃ vs, SqL X.K H a vs ∧ RpA X.K G vs ds := fun st3 c => by
      obtain ⟨a3, vs3, h13, _, h23, r3⟩ := st3.slotO c.2
      have e : a3 = a := by rw [c.1, h1] at h13; cases h13; rfl
      subst e
      exact ⟨vs3, .inl (.inl h23), r3⟩
    refine ⟨fun b i G H σ S x3 st3 c hi => ?_, fun b G H σ S x3 st3 c => ?_, fun b i d G H σ S x H' x3 st3 c hd y => ?_⟩
    · obtain ⟨vs3, l3, r3⟩ := hl st3 c
      exact (walk_list (K := X.K) (a := a) (xs := vs3)).goes i H (by rw [r3.length]; exact hi) l3
    · obtain ⟨vs3, l3, r3⟩ := hl st3 c
      rw [← r3.length]
      exact (walk_list (K := X.K) (a := a) (xs := vs3)).stops H l3
    · obtain ⟨vs3, l3, r3⟩ := hl st3 c
      obtain ⟨e1, e2⟩ := (walk_list (K := X.K) (a := a) (xs := vs3)).yields i H x H' (by rw [r3.length]; exact (List.getElem?_eq_some_iff.mp hd).1) l3 y
      subst e1
      obtain ⟨v, hv, rv⟩ := r3.get hd
      rw [e2] at hv
      cases hv
      exact ⟨G, st3, Ex.refl G, rv⟩
theorem range_get {k j : Nat} {d : PyData} {f : Nat → PyData} (h : ((List.range k).map f)[j]? = some d) : j < k ∧ d = f j := by
  rw [List.getElem?_map] at h
  by_cases c : j < k
  · rw [List.getElem?_range c] at h
    cases h
    exact ⟨c, rfl⟩
  · rw [List.getElem?_eq_none (by simp; omega)] at h
    cases h
theorem I_range1 (hm : X.mg "range" = none) (ha : E X b S e (.val (.int n)) S1) (hn : n < 2 ^ 62 := by omega) (hn0 : -(2 ^ 62) ≤ n := by omega) (hg : Gl X "range" := by rfl) (hs : starEach [e] X.env = [(false, eval e X.env)] := by rfl) :
    IT X b S tg (.Call (.Name "range" p) [e] [] pos) ((List.range n.toNat).map fun (i : Nat) => PyData.int (i : Int)) NoC S1 :=
  PI.w (pi_range1 hg hm (A_cons ha A_nil hs) hs) fun σ H Q ⟨G, st, q⟩ => ⟨G, st, fun vs G2 H2 st2 x r => by
    cases r with
    | cons r1 rn =>
      cases rn
      cases r1
      refine ⟨n, rfl, hn0, hn, q _ G2 H2 st2 x trivial ?_⟩
      refine ⟨fun b i G H σ S x3 st3 _ hi => by rw [List.length_map, List.length_range] at hi; exact hi, fun b G H σ S x3 st3 _ => by show n.toNat ≤ _; simp, fun b i d G H σ S x H' x3 st3 _ hd y => ?_⟩
      obtain ⟨h1, h2⟩ := range_get hd
      obtain ⟨e1, e2⟩ := y
      subst e1
      subst e2
      subst h2
      rw [Int.zero_add]
      exact ⟨G, st3, Ex.refl G, .int _⟩⟩
theorem I_range2 (hm : X.mg "range" = none) (ha : E X b S e (.val (.int m)) S1) (hb : E X b S1 f (.val (.int n)) S2) (hm1 : -(2 ^ 62) ≤ m ∧ m < 2 ^ 62) (hn : -(2 ^ 62) ≤ n ∧ n < 2 ^ 62) (hg : Gl X "range" := by rfl) (hs : starEach [e, f] X.env = [(false, eval e X.env), (false, eval f X.env)] := by rfl) (hs2 : starEach [f] X.env = [(false, eval f X.env)] := by rfl) :
    IT X b S tg (.Call (.Name "range" p) [e, f] [] pos) ((List.range (n - m).toNat).map fun (i : Nat) => PyData.int (m + (i : Int))) NoC S2 :=
  PI.w (pi_range2 hg hm (A_cons ha (A_cons hb A_nil hs2) (by rw [hs, hs2])) hs hs2) fun σ H Q ⟨G, st, q⟩ => ⟨G, st, fun vs G2 H2 st2 x r => by
    cases r with
    | cons r1 rn =>
      cases rn with
      | cons r2 rn =>
      cases rn
      cases r1
      cases r2
      refine ⟨m, n, rfl, ⟨hm1.1, hm1.2, hn.1, hn.2⟩, q _ G2 H2 st2 x trivial ?_⟩
      refine ⟨fun b i G H σ S x3 st3 _ hi => by rw [List.length_map, List.length_range] at hi; exact hi, fun b G H σ S x3 st3 _ => by show (n - m).toNat ≤ _; simp, fun b i d G H σ S x H' x3 st3 _ hd y => ?_⟩
      obtain ⟨h1, h2⟩ := range_get hd
      obtain ⟨e1, e2⟩ := y
      subst e1
      subst e2
      subst h2
      exact ⟨G, st3, Ex.refl G, .int _⟩⟩
/-- enumerate(tuple) -/
theorem zipIdx_get {j : Nat} {d : PyData} (h : (ds.zipIdx.map fun q => PyData.tuple [.int (q.2 : Int), q.1])[j]? = some d) : ∃ y, ds[j]? = some y ∧ d = .tuple [.int (j : Int), y] := by
  rw [List.getElem?_map, List.getElem?_zipIdx] at h
  cases q : ds[j]? with
  | none => rw [q] at h; cases h
  | some y =>
    rw [q] at h
    cases h
    exact ⟨y, rfl, by simp⟩
theorem I_enumT {elts : List Expr} {kk : Nat} {tpos : Pos} (hm : X.mg "enumerate" = none) (ha : E X b S e (.val (.tuple ds)) S1) (hg : Gl X "enumerate" := by rfl) (hs : starEach [e] X.env = [(false, eval e X.env)] := by rfl) :
    IT X b S (.Tuple elts kk tpos) (.Call (.Name "enumerate" p) [e] [] pos) (ds.zipIdx.map fun q => PyData.tuple [.int (q.2 : Int), q.1]) NoC S1 :=
  PI.w (pi_enumT hg hm (A_cons ha A_nil hs) hs) fun σ H Q ⟨G, st, q⟩ => ⟨G, st, fun vs G2 H2 st2 x r => by
    cases r with
    | cons r1 rn =>
      cases rn
      cases r1 with
      | @tup a vs _ h1 t =>
      refine ⟨a, vs, rfl, st2.sub.sqT h1, q _ G2 H2 st2 x trivial ?_⟩
      have hl : ∀ {tb : Tbs} {b : Bx tb} {G H : Hp} {σ : L2.St} {S : List Sl}, Ex G2 G → StOk X.K b G H σ S → SqT X.K H a vs := fun x3 st3 => st3.sub.sqT (x3.sqT h1)
      refine ⟨fun b i G H σ S x3 st3 _ hi => ?_, fun b G H σ S x3 st3 _ => ⟨vs, hl x3 st3, by simp [t.length]⟩, fun b i d G H σ S x H' x3 st3 _ hd y => ?_⟩
      · have hi' : i < vs.length := by rw [t.length]; simpa using hi
        exact ⟨vs, vs[i], hl x3 st3, by simp [hi']⟩
      · obtain ⟨y1, h3, h4⟩ := zipIdx_get hd
        obtain ⟨T, z, e1, e2, e3, e4⟩ := y
        subst e1; subst e3; subst h4
        obtain ⟨v, hv, rv⟩ := t.get h3
        rw [e4 vs (hl x3 st3)] at hv
        cases hv
        have x4 := st3.newEx (o := .tup [.int (i : Nat), z]) e2
        exact ⟨_, st3.new e2, x4, .tup (.inl (.inl upd_same)) (.cons (.int _) (.cons ((rv.mono x3).mono x4) .nil))⟩⟩
end
end D

set_option Elab.async false
set_option linter.all false
set_option maxRecDepth 100000
set_option maxHeartbeats 1000000
set_option autoImplicit false
/-! Dl3: targets, comprehensions, statements. -/
namespace D
open PySem PySem.Spec PyProof.Rows L2

/-! ### targets -/
/-- g stores the data d: the slots S become F S; its slots are among js -/
def GD {tb : Tbs} (K : PySem.W.Frag) (b : Bx tb) (g : TG) (d : PyData) (F : List Sl → List Sl) (js : List Nat) : Prop := ∀ G H σ S v (Q : L2.St → Hp → Prop), StOk K b G H σ S → Rp K G v d →
  (∀ σ', StOk K b G H σ' (F S) → (∀ vs : List Nat, (∀ j ∈ js, j ∈ vs) → wipe σ' vs = wipe σ vs) → Q σ' H) → g v σ H Q
def GsD {tb : Tbs} (K : PySem.W.Frag) (b : Bx tb) (g : TGs) (ds : List PyData) (F : List Sl → List Sl) (js : List Nat) : Prop := ∀ G H σ S vs (Q : L2.St → Hp → Prop), StOk K b G H σ S → RpA K G vs ds →
  (∀ σ', StOk K b G H σ' (F S) → (∀ ws : List Nat, (∀ j ∈ js, j ∈ ws) → wipe σ' ws = wipe σ ws) → Q σ' H) → g vs σ H Q
theorem wipe_set {σ : L2.St} {j : Nat} {o : Option V} : ∀ {vs : List Nat}, j ∈ vs → wipe (σ.set j o) vs = wipe σ vs
  | [], h => absurd h (by simp)
  | v :: vs, h => by
    unfold wipe
    by_cases e : j = v
    · subst e
      by_cases m : j ∈ vs
      · rw [wipe_set m]
      · have : ∀ vs : List Nat, j ∉ vs → wipe (σ.set j o) vs = (wipe σ vs).set j o := by
          intro vs
          induction vs with
          | nil => intro _; rfl
          | cons w ws ih =>
            intro hm
            unfold wipe
            rw [ih (fun z => hm (List.mem_cons_of_mem _ z)), List.set_comm _ _ (fun z => hm (by rw [z]; exact List.mem_cons_self))]
        rw [this vs m, List.set_set]
    · rw [wipe_set (by rcases List.mem_cons.mp h with z | z; exact absurd z e; exact z)]
theorem wipe_wipe (σ : L2.St) (vs : List Nat) : ∀ ws : List Nat, (∀ j ∈ ws, j ∈ vs) → wipe (wipe σ ws) vs = wipe σ vs
  | [], _ => rfl
  | w :: ws, h => by
    show wipe ((wipe σ ws).set w none) vs = _
    rw [wipe_set (h w List.mem_cons_self)]
    exact wipe_wipe σ vs ws fun j hj => h j (List.mem_cons_of_mem _ hj)
section
variable {K : PySem.W.Frag} {tb : Tbs} {b : Bx tb} {d : PyData} {ds : List PyData}
theorem g_name {i : Nat} : GD K b (gName i) d (fun S => S.set i (.val d)) [i] := fun G H σ S v Q st r q => q _ (st.putVal r) fun vs h => wipe_set (h i List.mem_cons_self)
theorem g_nil : GsD K b gNil [] (fun S => S) [] := fun G H σ S v Q st r q => by cases r; exact ⟨rfl, q σ st fun _ _ => rfl⟩
theorem g_cons {g : TG} {gs : TGs} {F F' : List Sl → List Sl} {js js' : List Nat} (h1 : GD K b g d F js) (h2 : GsD K b gs ds F' js') : GsD K b (gCons g gs) (d :: ds) (fun S => F' (F S)) (js ++ js') := fun G H σ S v Q st r q => by
  cases r with
  | cons r1 r2 =>
    exact ⟨_, _, rfl, h1 G H σ S _ _ st r1 fun σ1 st1 w1 => h2 G H σ1 (F S) _ _ st1 r2 fun σ2 st2 w2 => q σ2 st2 fun ws h =>
      (w2 ws fun j hj => h j (List.mem_append_right _ hj)).trans (w1 ws fun j hj => h j (List.mem_append_left _ hj))⟩
theorem g_tup {gs : TGs} {n : Nat} {F : List Sl → List Sl} {js : List Nat} (h : GsD K b gs ds F js) (hn : ds.length = n := by rfl) : GD K b (gTup K n gs) (.tuple ds) F js := fun G H σ S v Q st r q => by
  cases r with
  | tup h1 t => exact ⟨_, _, rfl, st.sub.sqT h1, by rw [t.length, hn], h G H σ S _ _ st t q⟩
end

/-! ### comprehensions -/
def wipeS (S : List Sl) : List Nat → List Sl
  | [] => S
  | v :: vs => (wipeS S vs).set v .emp
theorem StOk.wipe {K : PySem.W.Frag} {tb : Tbs} {b : Bx tb} {G H : Hp} {σ : L2.St} {S : List Sl} (h : StOk K b G H σ S) : ∀ vs : List Nat, StOk K b G H (L2.wipe σ vs) (wipeS S vs)
  | [] => h
  | v :: vs => (h.wipe vs).putEmp
theorem wipeS_len (S : List Sl) : ∀ vs : List Nat, (wipeS S vs).length = S.length
  | [] => rfl
  | v :: vs => by unfold wipeS; rw [List.length_set, wipeS_len S vs]
theorem wipeS_out {S : List Sl} {i : Nat} : ∀ {vs : List Nat}, i ∉ vs → (wipeS S vs)[i]? = S[i]?
  | [], _ => rfl
  | v :: vs, h => by
    unfold wipeS
    rw [set_off (fun z => h (by rw [z]; exact List.mem_cons_self)), wipeS_out fun z => h (List.mem_cons_of_mem _ z)]
theorem wipe_out' {σ : L2.St} {i : Nat} : ∀ {vs : List Nat}, i ∉ vs → (L2.wipe σ vs)[i]? = σ[i]?
  | [], _ => rfl
  | v :: vs, h => by
    unfold L2.wipe
    rw [set_off (fun z => h (by rw [z]; exact List.mem_cons_self)), wipe_out' fun z => h (List.mem_cons_of_mem _ z)]
/-- behind a comprehension: the slots vs are as ahead of it (S), the others as within (T) -/
def back (S T : List Sl) (vs : List Nat) : List Sl := (List.range S.length).map fun i => if i ∈ vs then S.getD i .emp else T.getD i .emp
theorem back_get {S T : List Sl} {vs : List Nat} {i : Nat} {s : Sl} (h : (back S T vs)[i]? = some s) : (i ∈ vs ∧ S[i]? = some s) ∨ (i ∉ vs ∧ i < S.length ∧ T.getD i .emp = s) := by
  unfold back at h
  rw [List.getElem?_map] at h
  by_cases c : i < S.length
  · rw [List.getElem?_range c] at h
    by_cases m : i ∈ vs
    · left
      simp only [Option.map_some, if_pos m] at h
      refine ⟨m, ?_⟩
      rw [List.getD_eq_getElem?_getD, List.getElem?_eq_getElem c] at h
      rw [List.getElem?_eq_getElem c]
      exact h
    · right
      simp only [Option.map_some, if_neg m] at h
      exact ⟨m, c, Option.some.inj h⟩
  · rw [List.getElem?_eq_none (by simp; omega)] at h
    cases h
theorem back_len (S T : List Sl) (vs : List Nat) : (back S T vs).length = S.length := by simp [back]
/-- no own cell among the slots vs -/
def NoOwn (S : List Sl) (vs : List Nat) : Prop := ∀ i ∈ vs, ∀ s, S[i]? = some s → s.owned = false
theorem StOk.back {K : PySem.W.Frag} {tb : Tbs} {b : Bx tb} {G G2 H H2 : Hp} {σ : L2.St} {S T : List Sl} {vs : List Nat} (h : StOk K b G H σ S) (h2 : StOk K b G2 H2 (L2.wipe σ vs) T) (x : Ex G G2) (no : NoOwn S vs) : StOk K b G2 H2 σ (D.back S T vs) where
  sub := h2.sub
  base := h2.base
  g0 := h2.g0
  nw := h2.nw
  gn := h2.gn
  tabs := h2.tabs
  len := by rw [back_len]; exact h.len
  at_ := fun i s e => by
    rcases back_get e with ⟨hm, h3⟩ | ⟨hm, hl, h3⟩
    · obtain ⟨o, h4, h5⟩ := h.at_ i s h3
      refine ⟨o, h4, ?_⟩
      have := no i hm s h3
      cases s with
      | emp => trivial
      | exc a d fo => exact ⟨h5.1, h5.2.mono x⟩
      | val d => obtain ⟨v, e2, r⟩ := h5; exact ⟨v, e2, r.mono x⟩
      | own l xs => cases this
      | dic xs => cases this
      | ins l C fs => cases this
    · have hl2 : i < T.length := by rw [← h2.len, wipe_length, h.len]; exact hl
      rw [List.getD_eq_getElem?_getD, List.getElem?_eq_getElem hl2] at h3
      have h3' : T[i]? = some s := by rw [List.getElem?_eq_getElem hl2]; exact congrArg some h3
      obtain ⟨o, h4, h5⟩ := h2.at_ i s h3'
      rw [wipe_out' hm] at h4
      exact ⟨o, h4, h5⟩
  sep := fun i j p w1 w2 => by
    have tr : ∀ k, Owns σ (D.back S T vs) k p → Owns (L2.wipe σ vs) T k p := fun k w => by
      obtain ⟨⟨s, e1, hs⟩, e2⟩ := w
      rcases back_get e1 with ⟨hm, h3⟩ | ⟨hm, hl, h3⟩
      · rw [no k hm s h3] at hs; cases hs
      · have hl2 : k < T.length := by rw [← h2.len, wipe_length, h.len]; exact hl
        rw [List.getD_eq_getElem?_getD, List.getElem?_eq_getElem hl2] at h3
        refine ⟨⟨s, by rw [List.getElem?_eq_getElem hl2]; exact congrArg some h3, hs⟩, ?_⟩
        rw [wipe_out' hm]; exact e2
    exact h2.sep i j p (tr i w1) (tr j w2)
/-- what is made -/
def lcOut {α : Type} (p : Nat → α → Bool) (f : Nat → α → PyData) : Nat → List α → List PyData
  | _, [] => []
  | i, x :: xs => if p i x = true then f i x :: lcOut p f (i + 1) xs else lcOut p f (i + 1) xs
theorem lcOut_app {α : Type} (p : Nat → α → Bool) (f : Nat → α → PyData) (y : α) : ∀ (i : Nat) (xs : List α), lcOut p f i (xs ++ [y]) = lcOut p f i xs ++ (if p (i + xs.length) y = true then [f (i + xs.length) y] else [])
  | i, [] => by
    show (if p i y = true then [f i y] else []) = [] ++ (if p (i + 0) y = true then [f (i + 0) y] else [])
    rw [Nat.add_zero, List.nil_append]
  | i, x :: xs => by
    have h := lcOut_app p f y (i + 1) xs
    have e : i + (x :: xs).length = i + 1 + xs.length := by rw [List.length_cons]; omega
    rw [e]
    show (if p i x = true then f i x :: lcOut p f (i + 1) (xs ++ [y]) else lcOut p f (i + 1) (xs ++ [y])) = (if p i x = true then f i x :: lcOut p f (i + 1) xs else lcOut p f (i + 1) xs) ++ _
    rw [h]
    split <;> rfl
theorem lcOut_const {α : Type} (p : α → Bool) (f : α → PyData) : ∀ (i : Nat) (xs : List α), lcOut (fun _ x => p x) (fun _ x => f x) i xs = (xs.filter p).map f
  | _, [] => rfl
  | i, x :: xs => by
    have h := lcOut_const p f (i + 1) xs
    show (if p x = true then f x :: lcOut (fun _ x => p x) (fun _ x => f x) (i + 1) xs else lcOut (fun _ x => p x) (fun _ x => f x) (i + 1) xs) = _
    rw [h, List.filter_cons]
    split <;> rfl
theorem lcOut_len {α : Type} (p : Nat → α → Bool) (f : Nat → α → PyData) : ∀ (i : Nat) (xs : List α), (lcOut p f i xs).length ≤ xs.length
  | _, [] => Nat.le_refl _
  | i, x :: xs => by
    have h := lcOut_len p f (i + 1) xs
    show (if p i x = true then f i x :: lcOut p f (i + 1) xs else lcOut p f (i + 1) xs).length ≤ xs.length + 1
    split
    · rw [List.length_cons]; omega
    · omega
theorem take_succ' {α : Type} {l : List α} {i : Nat} {x : α} (h : l[i]? = some x) : l.take (i + 1) = l.take i ++ [x] := by
  rw [List.take_succ, h] <;> rfl
section
variable {K : PySem.W.Frag} {tb : Tbs} {b : Bx tb} {S S1 : List Sl} {α : Type} {xs : List α} {enc : α → PyData} {vs js : List Nat} {g : TG}
/-- the test's and the element's readings over all turns -/
def lcT (tb : Tbs) (K : PySem.W.Frag) (xs : List α) (F : α → List Sl → List Sl) (T : Nat → List Sl) (p : Nat → α → Bool) (U : Nat → α → List Sl) : TT := fun σ H Q => ∃ (b : Bx tb) (i : Nat) (x : α), xs[i]? = some x ∧ tT K b (F x (T i)) (p i x) (U i x) σ H Q
def lcE (tb : Tbs) (K : PySem.W.Frag) (xs : List α) (p : Nat → α → Bool) (f : Nat → α → PyData) (U W : Nat → α → List Sl) : TE := fun σ H Q => ∃ (b : Bx tb) (i : Nat) (x : α), xs[i]? = some x ∧ p i x = true ∧ tE K b (U i x) (.val (f i x)) (W i x) σ H Q
/-- a cell is held fast -/
def Bx.hold (b : Bx tb) (p : Addr) (o : HO) : Bx tb := ⟨upd b.B p o, b.G0, upd b.H0 p o, b.W⟩
theorem StOk.hold {tb : Tbs} {b : Bx tb} {G H : Hp} {σ : L2.St} {S : List Sl} {p : Addr} {o : HO} (h : StOk K b G H σ S) (hp : H p = some o) (hg : G p = none) (ho : ∀ i q, Owns σ S i q → q ≠ p) : StOk K (b.hold p o) G H σ S where
  sub := h.sub
  base := h.base.up hp
  g0 := h.g0
  nw := fun a e => by
    show upd b.H0 p o a = none
    have hn : a ≠ p := fun z => by subst z; rw [hp] at e; cases e
    rw [upd_ne hn]; exact h.nw a e
  gn := fun a e => by
    have hn : a ≠ p := fun z => by subst z; exact e hg
    show b.G0 a ≠ none ∨ upd b.H0 p o a = none
    rw [upd_ne hn]; exact h.gn a e
  tabs := h.tabs
  len := h.len
  at_ := fun i s e => by
    obtain ⟨v, h1, h2⟩ := h.at_ i s e
    refine ⟨v, h1, ?_⟩
    by_cases hs : s.owned = true
    · obtain ⟨q, e3, ap, h5⟩ := h2.own hs
      have hn : q ≠ p := ho i q ⟨⟨s, e, hs⟩, by rw [h1, e3]⟩
      refine SlOk.of_own hs e3 ⟨?_, ap.hg, fun z => ?_, fun z => ?_⟩ h5
      · show upd b.B p o q = none
        rw [upd_ne hn]; exact ap.hb
      · show upd b.H0 p o q = none
        rw [upd_ne hn]; exact ap.h0 z
      · show upd b.H0 p o q ≠ none
        rw [upd_ne hn]; exact ap.h1 z
    · cases s with
      | emp => trivial
      | exc a d fo => exact h2
      | val d => exact h2
      | own l xs => exact absurd rfl hs
      | dic xs => exact absurd rfl hs
      | ins l C fs => exact absurd rfl hs
  sep := h.sep
theorem StOk.unhold {tb : Tbs} {b : Bx tb} {G H : Hp} {σ : L2.St} {S : List Sl} {p : Addr} {o : HO} (h : StOk K (b.hold p o) G H σ S) (hb : b.B p = none) (h0 : b.H0 p = none) (hg0 : b.G0 p = none) (ht : ∀ ps, o ≠ .tbl ps) : StOk K b G H σ S ∧ H p = some o ∧ G p = none ∧ ∀ i q, Owns σ S i q → q ≠ p := by
  have hp : H p = some o := h.base.at_ (show upd b.B p o p = some o from upd_same) ht
  have hg : G p = none := by
    cases e : G p with
    | none => rfl
    | some u =>
      rcases h.gn p (by rw [e]; intro z; cases z) with z | z
      · exact absurd hg0 z
      · have z' : upd b.H0 p o p = none := z
        rw [upd_same] at z'; cases z'
  have hoS : ∀ i q, Owns σ S i q → q ≠ p := fun i q w z => by
    have := (h.ownB w).1
    have z' : upd b.B p o q = none := this
    rw [z, upd_same] at z'; cases z'
  refine ⟨{ sub := h.sub, base := fun a u e => ?_, g0 := h.g0, nw := fun a e => ?_, gn := fun a e => ?_, tabs := h.tabs, len := h.len, at_ := fun i s e => ?_, sep := h.sep }, hp, hg, hoS⟩
  · exact h.base a u (show upd b.B p o a = some u by rw [upd_ne (fun z => by subst z; rw [hb] at e; cases e)]; exact e)
  · have z : upd b.H0 p o a = none := h.nw a e
    by_cases hn : a = p
    · subst hn; exact h0
    · rw [upd_ne hn] at z; exact z
  · rcases h.gn a e with z | z
    · exact .inl z
    · have z' : upd b.H0 p o a = none := z
      by_cases hn : a = p
      · subst hn; exact .inr h0
      · rw [upd_ne hn] at z'; exact .inr z'
  · obtain ⟨v, h1, h2⟩ := h.at_ i s e
    refine ⟨v, h1, ?_⟩
    by_cases hs : s.owned = true
    · obtain ⟨q, e3, ap, h5⟩ := h2.own hs
      have hn : q ≠ p := hoS i q ⟨⟨s, e, hs⟩, by rw [h1, e3]⟩
      have z1 : upd b.B p o q = none := ap.hb
      rw [upd_ne hn] at z1
      refine SlOk.of_own hs e3 ⟨z1, ap.hg, fun z => ?_, fun z => ?_⟩ h5
      · have z2 : upd b.H0 p o q = none := ap.h0 z
        rw [upd_ne hn] at z2
        exact z2
      · have z2 : upd b.H0 p o q ≠ none := ap.h1 z
        rw [upd_ne hn] at z2
        exact z2
    · cases s with
      | emp => trivial
      | exc a d fo => exact h2
      | val d => exact h2
      | own l xs => exact absurd rfl hs
      | dic xs => exact absurd rfl hs
      | ins l C fs => exact absurd rfl hs
theorem lc_sem {C : SCond} {F : α → List Sl → List Sl} {T : Nat → List Sl} {p : Nat → α → Bool} {f : Nat → α → PyData} {U W : Nat → α → List Sl}
    (gd : ∀ b : Bx tb, ∀ x ∈ xs, GD K b g (enc x) (F x) js) (hj : ∀ j ∈ js, j ∈ vs) (h0 : T 0 = wipeS S1 vs)
    (hw : ∀ (i : Nat) (x : α), xs[i]? = some x → wipeS (if p i x = true then W i x else U i x) vs = T (i + 1))
    (hC : ∀ σ i, i ≤ xs.length → C σ σ S1 → C σ (wipe σ vs) (T i)) (hz : xs.length < sizeLine) (no : NoOwn S1 vs)
    (σ : L2.St) (H : Hp) (Q : VK) (h : tE K b S (.new (lcOut p f 0 xs)) (back S1 (T xs.length) vs) σ H Q) :
    tLc (tI K b S (xs.map enc) C S1) g (lcT tb K xs F T p U) (lcE tb K xs p f U W) vs σ H Q := by
  obtain ⟨G, st, q⟩ := h
  refine ⟨G, st, fun J G2 H2 st2 x2 c2 w D0 hD => ?_⟩
  have hGD : G2 D0 = none := st2.sub.dom hD
  have hB : b.B D0 = none := st2.base.dom hD
  have hH0 : b.H0 D0 = none := st2.nw _ hD
  have hG0 : b.G0 D0 = none := st2.g0.dom hGD
  have hoD : ∀ i q, Owns σ S1 i q → q ≠ D0 := fun i q w => st2.ownNe hD w
  have nt : ∀ (ys : List V) ps, HO.lst ys ≠ .tbl ps := fun _ _ z => by cases z
  let Pv : Nat → Hp → Prop := fun i H => ∃ G acc, StOk K (b.hold D0 (.lst acc)) G H (wipe σ vs) (T i) ∧ Ex G2 G ∧ RpA K G acc (lcOut p f 0 (xs.take i))
  have hlen : (xs.map enc).length = xs.length := List.length_map ..
  refine ⟨fun i m H => m = xs.length - i ∧ i ≤ xs.length ∧ Pv i H, ⟨xs.length, by simp, Nat.zero_le _, ?_⟩, ?_⟩
  · refine ⟨G2, [], ?_, Ex.refl _, .nil⟩
    rw [h0]
    exact ((st2.poke hGD hB hoD).wipe vs).hold upd_same hGD fun i' q w => (st2.wipe vs).ownNe hD w
  · rintro i m H3 ⟨rfl, hi, G3, acc, st3, x3, racc⟩
    have hc3 := hC σ i hi c2
    by_cases hlt : i < xs.length
    · refine .inr ⟨w.goes _ i G3 H3 _ _ x3 st3 hc3 (by rw [hlen]; exact hlt), Pv (i + 1), fun H' p' => ⟨xs.length - (i + 1), by omega, rfl, hlt, p'⟩, fun v H4 y => ?_⟩
      have hx : xs[i]? = some xs[i] := List.getElem?_eq_getElem hlt
      obtain ⟨G4, st4, x4, r4⟩ := w.yields _ i (enc xs[i]) G3 H3 _ _ v H4 x3 st3 hc3 (by rw [List.getElem?_map, hx] <;> rfl) y
      refine gd _ xs[i] (List.getElem_mem hlt) G4 H4 _ _ v _ st4 r4 fun σ5 st5 w5 => ?_
      have hwp : wipe σ5 vs = wipe σ vs := (w5 vs hj).trans (wipe_wipe σ vs vs fun _ h => h)
      refine ⟨hwp, _, i, xs[i], hx, G4, st5, fun G6 H6 st6 x6 => ?_⟩
      have hout : lcOut p f 0 (xs.take (i + 1)) = lcOut p f 0 (xs.take i) ++ (if p i xs[i] = true then [f i xs[i]] else []) := by
        rw [take_succ' hx, lcOut_app]
        have e : 0 + (xs.take i).length = i := by rw [List.length_take]; omega
        rw [e]
      have hwi := hw i xs[i] hx
      have hn : acc.length < sizeLine := by
        rw [racc.length]
        have := lcOut_len p f 0 (xs.take i)
        rw [List.length_take] at this
        omega
      cases hp : p i xs[i] with
      | true =>
        rw [hp, if_pos rfl] at hwi hout
        show lcE tb K xs p f U W σ5 H6 _
        refine ⟨_, i, xs[i], hx, hp, G6, st6, fun u G7 H7 st7 x7 r7 => ?_⟩
        obtain ⟨st8, k1, k2, k3⟩ := st7.unhold hB hH0 hG0 (nt acc)
        refine ⟨acc, k1, hn, G7, acc ++ [u], ?_, x3.trans (x4.trans (x6.trans x7)), ?_⟩
        · have s9 := (st8.poke (o := .lst (acc ++ [u])) k2 hB k3).hold upd_same k2 k3
          have s10 := s9.wipe vs
          rw [hwi, hwp] at s10
          exact s10
        · rw [hout]
          exact (racc.mono (x4.trans (x6.trans x7))).append (.cons r7 .nil)
      | false =>
        rw [hp] at hwi hout
        simp only [Bool.false_eq_true, if_false] at hwi hout
        show Pv (i + 1) H6
        refine ⟨G6, acc, ?_, x3.trans (x4.trans x6), ?_⟩
        · have s10 := st6.wipe vs
          rw [hwi, hwp] at s10
          exact s10
        · rw [hout, List.append_nil]
          exact racc.mono (x4.trans x6)
    · have e : i = xs.length := by omega
      subst e
      refine .inl ⟨by have := w.stops _ G3 H3 _ _ x3 st3 hc3; rw [hlen] at this; exact this, ?_⟩
      rw [List.take_length] at racc
      obtain ⟨st4, k1, k2, k3⟩ := st3.unhold hB hH0 hG0 (nt acc)
      have s5 := st2.back st4 x3 no
      refine q _ _ _ s5 (x2.trans x3) ⟨D0, acc, rfl, k1, racc, ⟨hB, k2, fun _ => hH0, fun z => by cases z⟩, fun i' q w' z => ?_⟩
      subst z
      -- an own cell of what is behind is one within
      have h6 := s5.ownB w'
      obtain ⟨⟨s, e1, hs⟩, e2⟩ := w'
      rcases back_get e1 with ⟨hm, h3⟩ | ⟨hm, hl, h3⟩
      · rw [no i' hm s h3] at hs; cases hs
      · have hl2 : i' < (T xs.length).length := by rw [← st4.len, wipe_length, st2.len]; exact hl
        rw [List.getD_eq_getElem?_getD, List.getElem?_eq_getElem hl2] at h3
        exact k3 i' q ⟨⟨s, by rw [List.getElem?_eq_getElem hl2]; exact congrArg some h3, hs⟩, by rw [wipe_out' hm]; exact e2⟩ rfl
end
end D

set_option Elab.async false
set_option linter.all false
set_option maxRecDepth 100000
set_option maxHeartbeats 1000000
set_option autoImplicit false
/-! Dl4: comprehensions as rules, statements, defs. -/
namespace D
open PySem PySem.Spec PyProof.Rows L2

theorem getD_of {α : Type} {l : List α} {i : Nat} {d x : α} (h : l[i]? = some x) : l.getD i d = x := by
  rw [List.getD_eq_getElem?_getD, h] <;> rfl
theorem back_self {S : List Sl} {vs : List Nat} : back S (wipeS S vs) vs = S := by
  apply List.ext_getElem?
  intro i
  cases h : (back S (wipeS S vs) vs)[i]? with
  | none =>
    have := List.getElem?_eq_none_iff.mp h
    rw [back_len] at this
    exact (List.getElem?_eq_none_iff.mpr this).symm
  | some s =>
    rcases back_get h with ⟨hm, h3⟩ | ⟨hm, hl, h3⟩
    · exact h3.symm
    · have e : S[i]? = some S[i] := List.getElem?_eq_getElem hl
      rw [getD_of (by rw [wipeS_out hm]; exact e)] at h3
      rw [e, h3]
def noOwnB (S : List Sl) (vs : List Nat) : Bool := vs.all fun i => match S[i]? with
  | some s => !s.owned
  | none => true
theorem NoOwn.of {S : List Sl} {vs : List Nat} (h : noOwnB S vs = true) : NoOwn S vs := fun i hi s hs => by
  have := List.all_eq_true.mp h i hi
  simp only [hs] at this
  simpa using this
theorem PTs_nil {X : Cx} {tb : Tbs} {b : Bx tb} {S : List Sl} : PTs X [] (tT X.K b S true S) := PTs.w pts_nil fun σ H Q ⟨G, st, q⟩ => q G H st (Ex.refl G)
section
variable {X : Cx} {tb : Tbs} {b : Bx tb} {S S1 S2 S3 : List Sl} {e tg it elt : Expr} {es ifs : List Expr} {r : Rs} {d : PyData} {ds ys : List PyData} {pos p2 : Pos} {n m i : Int} {α β : Type} {xs : List α} {enc : α → PyData} {js : List Nat} {g : TG}
  {scope : Scope} {own : List (Str × Nat)} {C : SCond} {F : α → List Sl → List Sl}
/-- the block of a comprehension -/
abbrev Blk (X : Cx) (scope : Scope) (s : Shared) (H : Hp) (C : Addr) (cl : List (Str × Addr)) (fp : List Addr) : Cx := X.blk s H scope (compEnvC scope cl C X.env) fp
section
variable {T : Nat → List Sl} {p : Nat → α → Bool} {f : Nat → α → PyData} {U W : Nat → α → List Sl}
theorem lcT_run (ht : ∀ (b : Bx tb) (i : Nat) (x : α), xs[i]? = some x → ∀ s H C cl fp, PTs (Blk X scope s H C cl fp) ifs (tT X.K b (F x (T i)) (p i x) (U i x))) : ∀ s H C cl fp, PTs (Blk X scope s H C cl fp) ifs (lcT tb X.K xs F T p U) := fun s H C cl fp =>
  ⟨fun pins s1 σ H1 Q I ⟨b, i, x, hx, q⟩ => (ht b i x hx s H C cl fp).run pins s1 σ H1 Q I q⟩
theorem lcE_run (he : ∀ (b : Bx tb) (i : Nat) (x : α), xs[i]? = some x → p i x = true → ∀ s H C cl fp, E (Blk X scope s H C cl fp) b (U i x) elt (.val (f i x)) (W i x)) : ∀ s H C cl fp, PE (Blk X scope s H C cl fp) elt (lcE tb X.K xs p f U W) := fun s H C cl fp =>
  ⟨fun pins s1 σ H1 Q I ⟨b, i, x, hx, hp, q⟩ => (he b i x hx hp s H C cl fp).run pins s1 σ H1 Q I q⟩
/-- a comprehension, the slots followed turn by turn -/
theorem E_lcG (T : Nat → List Sl) (p : Nat → α → Bool) (f : Nat → α → PyData) (U W : Nat → α → List Sl) (hc : X.calm = true) (hN : X.N.Nodup) (hi : IT X b S tg it (xs.map enc) C S1) (ok : BlkOk X.N X.env.scope scope own) (hg : ∀ s H C cl fp, PG (Blk X scope s H C cl fp) tg g)
    (gd : ∀ b : Bx tb, ∀ x ∈ xs, GD X.K b g (enc x) (F x) js) (hj : ∀ j ∈ js, j ∈ own.map (·.2)) (h0 : T 0 = wipeS S1 (own.map (·.2)))
    (ht : ∀ (b : Bx tb) (i : Nat) (x : α), xs[i]? = some x → ∀ s H C cl fp, PTs (Blk X scope s H C cl fp) ifs (tT X.K b (F x (T i)) (p i x) (U i x)))
    (he : ∀ (b : Bx tb) (i : Nat) (x : α), xs[i]? = some x → p i x = true → ∀ s H C cl fp, E (Blk X scope s H C cl fp) b (U i x) elt (.val (f i x)) (W i x))
    (hw : ∀ (i : Nat) (x : α), xs[i]? = some x → wipeS (if p i x = true then W i x else U i x) (own.map (·.2)) = T (i + 1))
    (hC : ∀ σ i, i ≤ xs.length → C σ σ S1 → C σ (wipe σ (own.map (·.2))) (T i)) (hz : xs.length < sizeLine) (no : noOwnB S1 (own.map (·.2)) = true) (hs : ∀ x, foldedSetIterable it X.env x = pure x := by intro _; rfl) :
    E X b S (.ListComp elt [⟨tg, it, ifs, 0⟩] scope pos) (.new (lcOut p f 0 xs)) (back S1 (T xs.length) (own.map (·.2))) :=
  PE.w (pe_lc hc hN hi ok hg (lcT_run ht) (lcE_run he) hs) fun σ H Q h => lc_sem gd hj h0 hw hC hz (NoOwn.of no) σ H Q h
end
/-- a comprehension that changes nothing: over the items x of xs those with p x, f x of each -/
theorem E_lc (p : α → Bool) (f : α → β) (encB : β → PyData) (hc : X.calm = true) (hN : X.N.Nodup) (hi : IT X b S tg it (xs.map enc) NoC S1) (ok : BlkOk X.N X.env.scope scope own) (hg : ∀ s H C cl fp, PG (Blk X scope s H C cl fp) tg g)
    (gd : ∀ b : Bx tb, ∀ x ∈ xs, GD X.K b g (enc x) (F x) js) (hj : ∀ j ∈ js, j ∈ own.map (·.2))
    (ht : ∀ (b : Bx tb) (x : α), x ∈ xs → ∀ s H C cl fp, PTs (Blk X scope s H C cl fp) ifs (tT X.K b (F x (wipeS S1 (own.map (·.2)))) (p x) (F x (wipeS S1 (own.map (·.2))))))
    (he : ∀ (b : Bx tb) (x : α), x ∈ xs → p x = true → ∀ s H C cl fp, E (Blk X scope s H C cl fp) b (F x (wipeS S1 (own.map (·.2)))) elt (.val (encB (f x))) (F x (wipeS S1 (own.map (·.2)))))
    (hw : ∀ x ∈ xs, wipeS (F x (wipeS S1 (own.map (·.2)))) (own.map (·.2)) = wipeS S1 (own.map (·.2)))
    (hz : xs.length < sizeLine) (no : noOwnB S1 (own.map (·.2)) = true) (hs : ∀ x, foldedSetIterable it X.env x = pure x := by intro _; rfl) :
    E X b S (.ListComp elt [⟨tg, it, ifs, 0⟩] scope pos) (.new (((xs.filter p).map f).map encB)) S1 := by
  have h := E_lcG (pos := pos) (fun _ => wipeS S1 (own.map (·.2))) (fun _ x => p x) (fun _ x => encB (f x)) (fun _ x => F x (wipeS S1 (own.map (·.2)))) (fun _ x => F x (wipeS S1 (own.map (·.2)))) hc hN hi ok hg gd hj rfl
    (fun b i x hx => ht b x (List.mem_of_getElem? hx)) (fun b i x hx hp => he b x (List.mem_of_getElem? hx) hp) (fun i x hx => by have := hw x (List.mem_of_getElem? hx); by_cases c : p x = true <;> simp only [c, if_true, Bool.false_eq_true, if_false] <;> exact this) (fun _ _ _ _ => trivial) hz no hs
  rw [back_self, lcOut_const] at h
  rw [List.map_map]
  exact h
end
end D

set_option Elab.async false
set_option linter.all false
set_option maxRecDepth 100000
set_option maxHeartbeats 1000000
set_option autoImplicit false
/-! Dl5: statements. -/
namespace D
open PySem PySem.Spec PyProof.Rows L2
section
variable {X : Cx} {tb : Tbs} {b : Bx tb} {S S1 S2 S3 : List Sl} {e f tg it : Expr} {es : List Expr} {r : Rs} {d da db : PyData} {ds xs ys : List PyData} {pos p1 p2 : Pos} {n m i : Int} {st : Stmt} {rest body orelse : List Stmt} {P : Po} {c : Bool} {g : TG} {F : List Sl → List Sl} {js : List Nat}
/-- one statement, then the rest -/
theorem ss_cons {Mid : List Sl → Prop} (h1 : SO X b S st { P with nx := Mid }) (h2 : ∀ S', Mid S' → SS X b S' rest P) : SS X b S (st :: rest) P :=
  PSs.w (pss_cons h1 (PSs.ex (ι := { S' : List Sl // Mid S' }) fun S' => h2 S'.1 S'.2)) fun D σ H ⟨G, st, q1, q2, q3, q4, q5⟩ => ⟨G, st, fun G2 H2 σ2 S2 st2 x hm => ⟨⟨S2, hm⟩, G2, st2,
    fun G3 H3 σ3 S3 st3 x3 h => q1 G3 H3 σ3 S3 st3 (x.trans x3) h, fun v G3 H3 σ3 S3 d st3 x3 h => q2 v G3 H3 σ3 S3 d st3 (x.trans x3) h, fun G3 H3 σ3 S3 st3 x3 h => q3 G3 H3 σ3 S3 st3 (x.trans x3) h, fun G3 H3 σ3 S3 st3 x3 h => q4 G3 H3 σ3 S3 st3 (x.trans x3) h, fun G3 H3 σ3 S3 cls d fo st3 x3 r h => q5 G3 H3 σ3 S3 cls d fo st3 (x.trans x3) r h⟩, q2, q3, q4, q5⟩
theorem B_nil (h : P.nx S) : SS X b S [] P := PSs.w pss_nil fun D σ H ⟨G, st, q1, _⟩ => q1 G H σ S st (Ex.refl G) h
theorem B_wk {P' : Po} (h : SS X b S rest P) (h1 : ∀ S', P.nx S' → P'.nx S') (h2 : ∀ d S', P.rt d S' → P'.rt d S') (h3 : ∀ S', P.bk S' → P'.bk S') (h4 : ∀ S', P.ct S' → P'.ct S') (h5 : ∀ c f S', P.xr c f S' → P'.xr c f S') : SS X b S rest P' :=
  PSs.w h fun D σ H ⟨G, st, q1, q2, q3, q4, q5⟩ => ⟨G, st, fun G2 H2 σ2 S2 st2 x h => q1 G2 H2 σ2 S2 st2 x (h1 _ h), fun v G2 H2 σ2 S2 d st2 x r h => q2 v G2 H2 σ2 S2 d st2 x r (h2 _ _ h), fun G2 H2 σ2 S2 st2 x h => q3 G2 H2 σ2 S2 st2 x (h3 _ h), fun G2 H2 σ2 S2 st2 x h => q4 G2 H2 σ2 S2 st2 x (h4 _ h), fun G2 H2 σ2 S2 cls d fo st2 x r h => q5 G2 H2 σ2 S2 cls d fo st2 x r (h5 _ _ _ h)⟩
/-- x = e -/
theorem B_set (i : Nat) {x : Str} {px : Pos} (he : E X b S e (.val d) S1) (hN : X.N.Nodup) (hi : X.N[i]? = some x) (hx : Loc X.env.scope x) (k : SS X b (S1.set i (.val d)) rest P) (hs : swapsWith e (some (.Name x px)) pos.line X.env = pure false := by rfl) (hf : X.fn x = true ∨ X.env.scope.names.lookup x = some .local := by first | exact .inl rfl | exact .inr rfl) :
    SS X b S (.Assign [.Name x px] e pos :: rest) P :=
  ss_cons (Mid := fun S' => S' = S1.set i (.val d)) (PS.w (ps_set hN hi hx he hs hf) fun D σ H ⟨G, st, q1, _⟩ => ⟨G, st, fun v G2 H2 st2 x r => q1 G2 H2 _ _ (st2.putVal r) x rfl⟩) fun S' h => by rw [h]; exact k
/-- x = a new list, the def's own -/
theorem StOk.putNew {K : PySem.W.Frag} {G H : Hp} {σ : L2.St} {v : V} (st : StOk K b G H σ S) {i : Nat} (r : RsOk K b G H σ S v (.new xs)) : StOk K b G H (σ.set i (some v)) (S.set i (.own true xs)) := by
  obtain ⟨q, vs, rfl, hq, rv, ap, ho⟩ := r
  exact st.put ⟨q, rfl, ap, vs, hq, rv⟩ fun _ j q' e _ w => ho j q' w (by cases e; rfl)
theorem B_own (i : Nat) {x : Str} {px : Pos} (he : E X b S e (.new xs) S1) (hN : X.N.Nodup) (hi : X.N[i]? = some x) (hx : Loc X.env.scope x) (k : SS X b (S1.set i (.own true xs)) rest P) (hs : swapsWith e (some (.Name x px)) pos.line X.env = pure false := by rfl) (hf : X.fn x = true ∨ X.env.scope.names.lookup x = some .local := by first | exact .inl rfl | exact .inr rfl) :
    SS X b S (.Assign [.Name x px] e pos :: rest) P :=
  ss_cons (Mid := fun S' => S' = S1.set i (.own true xs)) (PS.w (ps_set hN hi hx he hs hf) fun D σ H ⟨G, st, q1, _⟩ => ⟨G, st, fun v G2 H2 st2 x r => q1 G2 H2 _ _ (st2.putNew r) x rfl⟩) fun S' h => by rw [h]; exact k
/-- an own list is taken as known from here on -/
theorem B_freeze (i : Nat) (hs : S[i]? = some (.own true xs)) (k : SS X b (S.set i (.val (.list xs))) rest P) : SS X b S rest P :=
  PSs.w k fun D σ H ⟨G, st, q1, q2, q3, q4, q5⟩ => by
    obtain ⟨p, G', _, x, st2, _⟩ := st.freeze hs
    exact ⟨G', st2, fun G3 H3 σ3 S3 st3 x3 h => q1 G3 H3 σ3 S3 st3 (x.trans x3) h, fun v G3 H3 σ3 S3 d st3 x3 h => q2 v G3 H3 σ3 S3 d st3 (x.trans x3) h, fun G3 H3 σ3 S3 st3 x3 h => q3 G3 H3 σ3 S3 st3 (x.trans x3) h, fun G3 H3 σ3 S3 st3 x3 h => q4 G3 H3 σ3 S3 st3 (x.trans x3) h, fun G3 H3 σ3 S3 cls d fo st3 x3 r h => q5 G3 H3 σ3 S3 cls d fo st3 (x.trans x3) r h⟩
/-- a slot is forgotten -/
theorem B_drop (i : Nat) (k : SS X b (S.set i .emp) rest P) : SS X b S rest P :=
  PSs.w k fun D σ H ⟨G, st, q⟩ => ⟨G, by
    by_cases hi : i < σ.length
    · have s2 := st.putEmp (i := i) (v := σ[i])
      have e : σ.set i σ[i] = σ := set_same (List.getElem?_eq_getElem hi)
      rw [e] at s2
      exact s2
    · have e : S.set i .emp = S := List.set_eq_of_length_le (by rw [← st.len]; omega)
      rw [e]; exact st, q⟩
/-- e (a call for what it does) -/
theorem B_expr (he : E X b S e r S1) (k : SS X b S1 rest P) (hs : swapsWith e none pos.line X.env = pure false := by rfl) : SS X b S (.Expr e pos :: rest) P :=
  ss_cons (Mid := fun S' => S' = S1) (PS.w (ps_expr he hs) fun D σ H ⟨G, st, q1, _⟩ => ⟨G, st, fun v G2 H2 st2 x _ => q1 G2 H2 _ _ st2 x rfl⟩) fun S' h => by rw [h]; exact k
theorem B_ret (he : E X b S e (.val d) S1) (h : P.rt d S1) : SS X b S (.Return (some e) pos :: rest) P :=
  ss_cons (Mid := fun _ => False) (PS.w (ps_ret he) fun D σ H ⟨G, st, _, q2, _⟩ => ⟨G, st, fun v G2 H2 st2 x r => q2 v G2 H2 _ _ d st2 x r h⟩) fun S' h => h.elim
theorem B_retN (h : P.rt .none S) : SS X b S (.Return none pos :: rest) P :=
  ss_cons (Mid := fun _ => False) (PS.w ps_retN fun D σ H ⟨G, st, _, q2, _⟩ => q2 .non G H _ _ .none st (Ex.refl G) .non h) fun S' h => h.elim
theorem B_pass (k : SS X b S rest P) : SS X b S (.Pass pos :: rest) P :=
  ss_cons (Mid := fun S' => S' = S) (PS.w ps_pass fun D σ H ⟨G, st, q1, _⟩ => q1 G H σ S st (Ex.refl G) rfl) fun S' h => by rw [h]; exact k
theorem B_break (h : P.bk S) : SS X b S (.Break pos :: rest) P :=
  ss_cons (Mid := fun _ => False) (PS.w ps_break fun D σ H ⟨G, st, _, _, q3, _⟩ => q3 G H _ _ st (Ex.refl G) h) fun S' h => h.elim
theorem B_cont (h : P.ct S) : SS X b S (.Continue pos :: rest) P :=
  ss_cons (Mid := fun _ => False) (PS.w ps_continue fun D σ H ⟨G, st, _, _, _, q4, _⟩ => q4 G H _ _ st (Ex.refl G) h) fun S' h => h.elim
/-- target = e, e data -/
theorem B_asg (he : E X b S e (.val d) S1) (hg : PG X tg g) (gd : GD X.K b g d F js) (k : SS X b (F S1) rest P) (hs : swapsWithSole [tg] e pos.line X.env = pure false := by rfl) (hw : swappedStores [tg] e X.env = pure none := by rfl) (h1 : (assignEach [tg] X.env).map (·.2) = [assign tg X.env] := by rfl) :
    SS X b S (.Assign [tg] e pos :: rest) P :=
  ss_cons (Mid := fun S' => S' = F S1) (PS.w (ps_asg he hg hs hw h1) fun D σ H ⟨G, st, q1, _⟩ => ⟨G, st, fun v G2 H2 st2 x r => gd G2 H2 σ S1 v _ st2 r fun σ' st3 _ => q1 G2 H2 σ' _ st3 x rfl⟩) fun S' h => by rw [h]; exact k
/-- x, y = e, f: two local names, stored from the right -/
theorem B_par (i j : Nat) {x y : Str} {px py pt pt2 : Pos} {kt k2 : Nat} (h1 : E X b S e (.val da) S1) (h2 : E X b S1 f (.val db) S2) (hc : X.calm = true) (hN : X.N.Nodup) (hi : X.N[i]? = some x) (hj : X.N[j]? = some y) (hij : i ≠ j) (hx : X.env.scope.names.lookup x = some .local) (hy : X.env.scope.names.lookup y = some .local)
    (k : SS X b ((S2.set i (.val da)).set j (.val db)) rest P) (hw : swappedStores [.Tuple [.Name x px, .Name y py] kt pt] (.Tuple [e, f] k2 pt2) X.env = pure (some [x, y]) := by rfl) (hs : swapsWithSole [.Tuple [.Name x px, .Name y py] kt pt] (.Tuple [e, f] k2 pt2) pos.line X.env = pure false := by rfl)
    (ha : starEach [e, f] X.env = (false, eval e X.env) :: starEach [f] X.env := by rfl) (ha2 : starEach [f] X.env = (false, eval f X.env) :: starEach [] X.env := by rfl) :
    SS X b S (.Assign [.Tuple [.Name x px, .Name y py] kt pt] (.Tuple [e, f] k2 pt2) pos :: rest) P :=
  ss_cons (Mid := fun S' => S' = (S2.set i (.val da)).set j (.val db)) (PS.w (ps_par hc hN hi hj hij hx hy (pa_cons h1 (pa_cons h2 pa_nil ha2) ha) hw hs) fun D σ H ⟨G, st, q1, _⟩ => ⟨G, st, fun v G2 H2 st2 x r => ⟨G2, st2, fun w G3 H3 st3 x3 r3 =>
    ⟨v, w, rfl, q1 G3 H3 _ _ ((st3.putVal (r.mono x3)).putVal r3) (x.trans x3) rfl⟩⟩⟩) fun S' h => by rw [h]; exact k
/-- .. the second one a new list -/
theorem B_parN (i j : Nat) {x y : Str} {px py pt pt2 : Pos} {kt k2 : Nat} (h1 : E X b S e (.val da) S1) (h2 : E X b S1 f (.new xs) S2) (hc : X.calm = true) (hN : X.N.Nodup) (hi : X.N[i]? = some x) (hj : X.N[j]? = some y) (hij : i ≠ j) (hx : X.env.scope.names.lookup x = some .local) (hy : X.env.scope.names.lookup y = some .local)
    (k : SS X b ((S2.set i (.val da)).set j (.own true xs)) rest P) (hw : swappedStores [.Tuple [.Name x px, .Name y py] kt pt] (.Tuple [e, f] k2 pt2) X.env = pure (some [x, y]) := by rfl) (hs : swapsWithSole [.Tuple [.Name x px, .Name y py] kt pt] (.Tuple [e, f] k2 pt2) pos.line X.env = pure false := by rfl)
    (ha : starEach [e, f] X.env = (false, eval e X.env) :: starEach [f] X.env := by rfl) (ha2 : starEach [f] X.env = (false, eval f X.env) :: starEach [] X.env := by rfl) :
    SS X b S (.Assign [.Tuple [.Name x px, .Name y py] kt pt] (.Tuple [e, f] k2 pt2) pos :: rest) P :=
  ss_cons (Mid := fun S' => S' = (S2.set i (.val da)).set j (.own true xs)) (PS.w (ps_par hc hN hi hj hij hx hy (pa_cons h1 (pa_cons h2 pa_nil ha2) ha) hw hs) fun D σ H ⟨G, st, q1, _⟩ => ⟨G, st, fun v G2 H2 st2 x r => ⟨G2, st2, fun w G3 H3 st3 x3 r3 => by
    refine ⟨v, w, rfl, q1 G3 H3 _ _ ?_ (x.trans x3) rfl⟩
    have s4 := st3.putVal (i := i) (r.mono x3)
    obtain ⟨q, vs, rfl, hq, rv, ap, ho⟩ := r3
    refine s4.put ⟨q, rfl, ap, vs, hq, rv⟩ fun _ j' q' e' _ w' => ?_
    rcases w'.of_set with ⟨_, w2⟩ | ⟨_, z, _⟩
    · exact ho j' q' w2 (by cases e'; rfl)
    · cases z⟩⟩) fun S' h => by rw [h]; exact k
/-- found.append(e) -/
theorem B_app (i : Nat) {x : Str} {l : Bool} {px pa pc : Pos} (hs : S[i]? = some (.own l xs)) (hx : PE X (.Name x px) (tVar i)) (he : E X b S e (.val d) S1) (hs1 : S1[i]? = some (.own l ys)) (hz : ys.length < sizeLine) (k : SS X b (S1.set i (.own l (ys ++ [d]))) rest P)
    (hbase : attributeBase (.Name x px) "append" X.env (eval (.Name x px) X.env) = eval (.Name x px) X.env := by rfl)
    (hfew : ((backTo pc (starEach [e] X.env)).all (fun x => !x.1) && (backToKw pc (keywordEach [] X.env)).all (fun x => x.1.isSome) && decide ([e].length + ([] : List Keyword).length + (if ([] : List Keyword).isEmpty then 0 else 1) < 30)) = true := by rfl)
    (hline : (pa.endLine == pc.line) = true := by rfl) (hst : starEach [e] X.env = (false, eval e X.env) :: starEach [] X.env := by rfl) (hplain : (backTo pc (starEach [] X.env)).any (·.1) = false := by rfl) (hsw : swapsWith (.Call (.Attribute (.Name x px) "append" pa) [e] [] pc) none pos.line X.env = pure false := by rfl) :
    SS X b S (.Expr (.Call (.Attribute (.Name x px) "append" pa) [e] [] pc) pos :: rest) P :=
  ss_cons (Mid := fun S' => S' = S1.set i (.own l (ys ++ [d]))) (PS.w (ps_expr (pe_bm PySem.F.plainAttrs_list PySem.F.slot_list_append PySem.F.type_list_append mt_append hx (pa_cons he pa_nil hst) hbase hfew hline hst hplain) hsw) fun D σ H ⟨G, st, q1, _⟩ => by
    obtain ⟨a, vs, h1, ap, h2, rv⟩ := st.slotO hs
    refine ⟨_, h1, .inl ⟨rfl, _, .inl (.inl h2)⟩, G, st, fun w G2 H2 st2 x2 r2 => ?_⟩
    obtain ⟨a', vs', h1', ap', h2', rv'⟩ := st2.slotO hs1
    have ea : a' = a := by rw [h1] at h1'; cases h1'; rfl
    subst ea
    exact ⟨a', vs', w, rfl, rfl, h2', by rw [rv'.length]; exact hz, q1 G2 _ σ _ (st2.write (s' := .own l (ys ++ [d])) h1 hs1 rfl rfl rfl ⟨_, upd_same, rv'.append (.one r2)⟩) x2 rfl⟩) fun S' h => by rw [h]; exact k
/-- row[i] = e -/
theorem B_setIx (i : Nat) {l : Bool} {j : Nat} {o : Expr} (he : E X b S e (.val d) S1) (hs1 : S1[i]? = some (.own l ys)) (hg : PG X (.Subscript o f p1) (gSub (tVar i) (tE X.K b S1 (.val (.int n)) S1) rSetL)) (hj : ixN ys.length n = some j) (k : SS X b (S1.set i (.own l (ys.set j d))) rest P)
    (hs : swapsWithSole [.Subscript o f p1] e pos.line X.env = pure false := by rfl) (hw : swappedStores [.Subscript o f p1] e X.env = pure none := by rfl) (h1 : (assignEach [.Subscript o f p1] X.env).map (·.2) = [assign (.Subscript o f p1) X.env] := by rfl) :
    SS X b S (.Assign [.Subscript o f p1] e pos :: rest) P :=
  ss_cons (Mid := fun S' => S' = S1.set i (.own l (ys.set j d))) (PS.w (ps_asg he hg hs hw h1) fun D σ H ⟨G, st, q1, _⟩ => ⟨G, st, fun v G2 H2 st2 x2 r2 => by
    obtain ⟨a, vs, e1, ap, e2, rv⟩ := st2.slotO hs1
    refine ⟨_, e1, G2, st2, fun w G3 H3 st3 x3 r3 => ?_⟩
    cases r3
    obtain ⟨a', vs', e1', ap', e2', rv'⟩ := st3.slotO hs1
    have ea : a' = a := by rw [e1] at e1'; cases e1'; rfl
    subst ea
    exact ⟨a', vs', n, j, rfl, rfl, e2', by rw [rv'.length]; exact hj, q1 G3 _ σ _ (st3.write (s' := .own l (ys.set j d)) e1 hs1 rfl rfl rfl ⟨_, upd_same, RpA.set (r2.mono x3) j rv'⟩) (x2.trans x3) rfl⟩⟩) fun S' h => by rw [h]; exact k
/-- x += e, x -= e (ints) -/
theorem B_aug (i : Nat) {x : Str} {px : Pos} {op : Operator} {fn : Int → Int → Int} (hs : S[i]? = some (.val (.int n))) (he : E X b S e (.val (.int m)) S1) (ho : PIp X op (ipI fn)) (hN : X.N.Nodup) (hi : X.N[i]? = some x) (hx : Loc X.env.scope x) (k : SS X b (S1.set i (.val (.int (fn n m)))) rest P) (hf : X.fn x = true ∨ X.env.scope.names.lookup x = some .local := by first | exact .inl rfl | exact .inr rfl) :
    SS X b S (.AugAssign (.Name x px) op e pos :: rest) P :=
  ss_cons (Mid := fun S' => S' = S1.set i (.val (.int (fn n m)))) (PS.w (ps_aug hN hi hx he ho hf) fun D σ H ⟨G, st, q1, _⟩ => by
    obtain ⟨v, h1, r1⟩ := st.slot hs
    cases r1
    exact ⟨_, h1, G, st, fun w G2 H2 st2 x2 r2 => by cases r2; exact ⟨n, m, rfl, rfl, q1 G2 H2 _ _ (st2.putVal (.int _)) x2 rfl⟩⟩) fun S' h => by rw [h]; exact k
theorem B_if {Mid : List Sl → Prop} (hc : T X b S e c S1) (h1 : c = true → SS X b S1 body { P with nx := Mid }) (h2 : c = false → SS X b S1 orelse { P with nx := Mid }) (k : ∀ S', Mid S' → SS X b S' rest P) : SS X b S (.If e body orelse pos :: rest) P := by
  refine ss_cons (Mid := Mid) ?_ k
  cases c with
  | true =>
    refine PS.w (ps_if hc (h1 rfl) PSs.ff) fun D σ H ⟨G, st, q1, q2, q3, q4, q5⟩ => ⟨G, st, fun G2 H2 st2 x => ?_⟩
    show tS X.K b S1 _ D σ H2
    exact ⟨G2, st2, fun G3 H3 σ3 S3 st3 x3 h => q1 G3 H3 σ3 S3 st3 (x.trans x3) h, fun v G3 H3 σ3 S3 d st3 x3 h => q2 v G3 H3 σ3 S3 d st3 (x.trans x3) h, fun G3 H3 σ3 S3 st3 x3 h => q3 G3 H3 σ3 S3 st3 (x.trans x3) h, fun G3 H3 σ3 S3 st3 x3 h => q4 G3 H3 σ3 S3 st3 (x.trans x3) h, fun G3 H3 σ3 S3 cls d fo st3 x3 r h => q5 G3 H3 σ3 S3 cls d fo st3 (x.trans x3) r h⟩
  | false =>
    refine PS.w (ps_if hc PSs.ff (h2 rfl)) fun D σ H ⟨G, st, q1, q2, q3, q4, q5⟩ => ⟨G, st, fun G2 H2 st2 x => ?_⟩
    show tS X.K b S1 _ D σ H2
    exact ⟨G2, st2, fun G3 H3 σ3 S3 st3 x3 h => q1 G3 H3 σ3 S3 st3 (x.trans x3) h, fun v G3 H3 σ3 S3 d st3 x3 h => q2 v G3 H3 σ3 S3 d st3 (x.trans x3) h, fun G3 H3 σ3 S3 st3 x3 h => q3 G3 H3 σ3 S3 st3 (x.trans x3) h, fun G3 H3 σ3 S3 st3 x3 h => q4 G3 H3 σ3 S3 st3 (x.trans x3) h, fun G3 H3 σ3 S3 cls d fo st3 x3 r h => q5 G3 H3 σ3 S3 cls d fo st3 (x.trans x3) r h⟩
/-- an if whose body always leaves -/
theorem B_ifR (hc : T X b S e c S1) (h1 : c = true → SS X b S1 body { P with nx := fun _ => False }) (k : c = false → SS X b S1 rest P) : SS X b S (.If e body [] pos :: rest) P :=
  B_if (Mid := fun S' => S' = S1 ∧ c = false) hc (fun h => B_wk (h1 h) (fun _ z => z.elim) (fun _ _ z => z) (fun _ z => z) (fun _ z => z) (fun _ _ _ z => z)) (fun h => B_nil ⟨rfl, h⟩) fun S' ⟨h, hc⟩ => by rw [h]; exact k hc
/-- an if both of whose ways go on, the rest shown for each -/
theorem B_ifS {Sa Sb : List Sl} (hc : T X b S e c S1) (h1 : c = true → SS X b S1 body { P with nx := fun S' => S' = Sa }) (h2 : c = false → SS X b S1 orelse { P with nx := fun S' => S' = Sb }) (ka : c = true → SS X b Sa rest P) (kb : c = false → SS X b Sb rest P) : SS X b S (.If e body orelse pos :: rest) P := by
  cases c with
  | true => exact B_if (Mid := fun S' => S' = Sa) hc h1 (fun h => by cases h) fun S' h => by rw [h]; exact ka rfl
  | false => exact B_if (Mid := fun S' => S' = Sb) hc (fun h => by cases h) h2 fun S' h => by rw [h]; exact kb rfl
/-- for target in what is walked: Inv i holds ahead of the turn i -/
theorem B_for {α : Type} {xs : List α} {enc : α → PyData} {F : α → List Sl → List Sl} (Inv : Nat → List Sl → Prop) (hp : PassesOwn (model X.prog X.w) X.A X.env X.xe) (hc : X.calm = true) (hi : IT X b S tg it (xs.map enc) NoC S1) (hg : PG X tg g) (gd : ∀ x ∈ xs, GD X.K b g (enc x) (F x) js)
    (h0 : Inv 0 S1) (hb : ∀ (i : Nat) (x : α) S', xs[i]? = some x → Inv i S' → SS X b (F x S') body { nx := Inv (i + 1), ct := Inv (i + 1), bk := P.nx, rt := P.rt, xr := P.xr }) (k : ∀ S', Inv xs.length S' → P.nx S') (hs : ∀ x, foldedSetIterable it X.env x = pure x := by intro _; rfl) : SO X b S (.For tg it body [] pos) P := by
  let tb : TS := fun D σ H => ∃ (i : Nat) (x : α) (S' : List Sl), xs[i]? = some x ∧ Inv i S' ∧ tS X.K b (F x S') { nx := Inv (i + 1), ct := Inv (i + 1), bk := P.nx, rt := P.rt, xr := P.xr } D σ H
  have hbody : PSs X body tb := ⟨fun pins s1 σ H1 D I ⟨i, x, S', hx, hi, q⟩ => (hb i x S' hx hi).run pins s1 σ H1 D I q⟩
  have hlen : (xs.map enc).length = xs.length := List.length_map ..
  refine PS.w (ps_for hp hc hi hg hbody hs) fun D σ H ⟨G, st, q1, q2, q3, q4, q5⟩ => ⟨G, st, fun J G2 H2 st2 x2 c2 w => ?_⟩
  refine ⟨fun i m σ H => m = xs.length - i ∧ i ≤ xs.length ∧ ∃ G3 S', StOk X.K b G3 H σ S' ∧ Ex G2 G3 ∧ Inv i S', ⟨xs.length, by simp, Nat.zero_le _, G2, S1, st2, Ex.refl _, h0⟩, ?_⟩
  rintro i m σ3 H3 ⟨rfl, hile, G3, S3, st3, x3, hI⟩
  by_cases hlt : i < xs.length
  · have hx : xs[i]? = some xs[i] := List.getElem?_eq_getElem hlt
    refine .inr ⟨w.goes b i G3 H3 σ3 S3 x3 st3 trivial (by rw [hlen]; exact hlt), fun σ' H' => ∃ G4 S', StOk X.K b G4 H' σ' S' ∧ Ex G2 G4 ∧ Inv (i + 1) S', fun σ' H' ⟨G4, S', a1, a2, a3⟩ => ⟨xs.length - (i + 1), by omega, rfl, hlt, G4, S', a1, a2, a3⟩, fun v H4 y => ?_⟩
    obtain ⟨G4, st4, x4, r4⟩ := w.yields b i (enc xs[i]) G3 H3 σ3 S3 v H4 x3 st3 trivial (by rw [List.getElem?_map, hx] <;> rfl) y
    refine gd xs[i] (List.getElem_mem hlt) G4 H4 σ3 S3 v _ st4 r4 fun σ5 st5 _ => ⟨i, xs[i], S3, hx, hI, G4, st5, ?_, ?_, ?_, ?_, ?_⟩
    · exact fun G5 H5 σ6 S6 st6 x6 h => ⟨G5, S6, st6, x3.trans (x4.trans x6), h⟩
    · exact fun v G5 H5 σ6 S6 d st6 x6 r h => q2 v G5 H5 σ6 S6 d st6 (x2.trans (x3.trans (x4.trans x6))) r h
    · exact fun G5 H5 σ6 S6 st6 x6 h => q1 G5 H5 σ6 S6 st6 (x2.trans (x3.trans (x4.trans x6))) h
    · exact fun G5 H5 σ6 S6 st6 x6 h => ⟨G5, S6, st6, x3.trans (x4.trans x6), h⟩
    · exact fun G5 H5 σ6 S6 cls d fo st6 x6 r h => q5 G5 H5 σ6 S6 cls d fo st6 (x2.trans (x3.trans (x4.trans x6))) r h
  · have ei : i = xs.length := by omega
    subst ei
    exact .inl ⟨by have := w.stops b G3 H3 σ3 S3 x3 st3 trivial; rw [hlen] at this; exact this, q1 G3 H3 σ3 S3 st3 (x2.trans x3) (k S3 hI)⟩
/-- while: Inv m holds ahead of a turn, m falls -/
theorem B_while (Inv : Nat → List Sl → Prop) {m0 : Nat} (hp : PassesOwn (model X.prog X.w) X.A X.env X.xe) (h0 : Inv m0 S)
    (hb : ∀ m S', Inv m S' → ∃ c S2, T X b S' e c S2 ∧ (c = true → SS X b S2 body { nx := fun S3 => ∃ m', m' < m ∧ Inv m' S3, ct := fun S3 => ∃ m', m' < m ∧ Inv m' S3, bk := P.nx, rt := P.rt, xr := P.xr }) ∧ (c = false → P.nx S2)) : SO X b S (.While e body [] pos) P := by
  let tc : TT := fun σ H Q => ∃ (m : Nat) (S' : List Sl) (c : Bool) (S2 : List Sl), Inv m S' ∧ T X b S' e c S2 ∧ tT X.K b S' c S2 σ H Q
  let tb : TS := fun D σ H => ∃ (m : Nat) (S2 : List Sl), SS X b S2 body { nx := fun S3 => ∃ m', m' < m ∧ Inv m' S3, ct := fun S3 => ∃ m', m' < m ∧ Inv m' S3, bk := P.nx, rt := P.rt, xr := P.xr } ∧ tS X.K b S2 { nx := fun S3 => ∃ m', m' < m ∧ Inv m' S3, ct := fun S3 => ∃ m', m' < m ∧ Inv m' S3, bk := P.nx, rt := P.rt, xr := P.xr } D σ H
  have htest : PT X e tc := ⟨fun pins s1 σ H1 Q I ⟨m, S', c, S2, _, h, q⟩ => h.run pins s1 σ H1 Q I q⟩
  have hbody : PSs X body tb := ⟨fun pins s1 σ H1 D I ⟨m, S2, h, q⟩ => h.run pins s1 σ H1 D I q⟩
  refine PS.w (ps_while hp htest hbody) fun D σ H ⟨G, st, q1, q2, q3, q4, q5⟩ => ?_
  refine ⟨fun m σ H => ∃ G3 S', StOk X.K b G3 H σ S' ∧ Ex G G3 ∧ Inv m S', ⟨m0, G, S, st, Ex.refl _, h0⟩, ?_⟩
  rintro m σ3 H3 ⟨G3, S3, st3, x3, hI⟩
  obtain ⟨c, S4, ht, hy, hn⟩ := hb m S3 hI
  refine ⟨m, S3, c, S4, hI, ht, G3, st3, fun G4 H4 st4 x4 => ?_⟩
  cases c with
  | true =>
    show ∃ N : L2.St → Hp → Prop, _ ∧ _
    refine ⟨fun σ' H' => ∃ m', m' < m ∧ ∃ G5 S', StOk X.K b G5 H' σ' S' ∧ Ex G G5 ∧ Inv m' S', fun σ' H' h => h, m, S4, hy rfl, G4, st4, ?_, ?_, ?_, ?_, ?_⟩
    · exact fun G5 H5 σ6 S6 st6 x6 ⟨m', hm, h⟩ => ⟨m', hm, G5, S6, st6, x3.trans (x4.trans x6), h⟩
    · exact fun v G5 H5 σ6 S6 d st6 x6 r h => q2 v G5 H5 σ6 S6 d st6 (x3.trans (x4.trans x6)) r h
    · exact fun G5 H5 σ6 S6 st6 x6 h => q1 G5 H5 σ6 S6 st6 (x3.trans (x4.trans x6)) h
    · exact fun G5 H5 σ6 S6 st6 x6 ⟨m', hm, h⟩ => ⟨m', hm, G5, S6, st6, x3.trans (x4.trans x6), h⟩
    · exact fun G5 H5 σ6 S6 cls d fo st6 x6 r h => q5 G5 H5 σ6 S6 cls d fo st6 (x3.trans (x4.trans x6)) r h
  | false =>
    show D.nx σ3 H4
    exact q1 G4 H4 σ3 S4 st4 (x3.trans x4) (hn rfl)
/-- a statement that goes on at Mid, then the rest -/
theorem B_then {Mid : List Sl → Prop} (h1 : SO X b S st { P with nx := Mid }) (h2 : ∀ S', Mid S' → SS X b S' rest P) : SS X b S (st :: rest) P := ss_cons h1 h2
end
end D

set_option Elab.async false
set_option linter.all false
set_option maxRecDepth 100000
set_option maxHeartbeats 1000000
set_option autoImplicit false
/-! Dl6: a comprehension that is stored, lists that grow, defs and their calls. -/
namespace D
open PySem PySem.Spec PyProof.Rows L2
section
variable {X : Cx} {tb : Tbs} {b : Bx tb} {S S1 S2 S3 : List Sl} {e f tg it elt : Expr} {es ifs : List Expr} {r : Rs} {d da db : PyData} {ds xs ys : List PyData} {pos p1 p2 spos : Pos} {n m i : Int} {st : Stmt} {rest body orelse : List Stmt} {P : Po} {c : Bool} {g : TG} {js : List Nat}
/-- y = [elt for tg in it ..] on one line, y a local name -/
theorem B_setLc {α β : Type} {xs : List α} {enc : α → PyData} {F : α → List Sl → List Sl} {scope : Scope} {own : List (Str × Nat)} (i : Nat) {y : Str} {py : Pos} (p : α → Bool) (f : α → β) (encB : β → PyData) (hc : X.calm = true) (hN : X.N.Nodup) (hy : X.N[i]? = some y) (hyl : X.env.scope.names.lookup y = some .local)
    (hsw : swapsWith (.ListComp elt [⟨tg, it, ifs, 0⟩] scope pos) (some (.Name y py)) spos.line X.env = pure true) (hi : IT X b S tg it (xs.map enc) NoC S1) (ok : BlkOk X.N X.env.scope scope own) (hg : ∀ s H C cl fp, PG (Blk X scope s H C cl fp) tg g)
    (gd : ∀ b : Bx tb, ∀ x ∈ xs, GD X.K b g (enc x) (F x) js) (hj : ∀ j ∈ js, j ∈ own.map (·.2))
    (ht : ∀ (b : Bx tb) (x : α), x ∈ xs → ∀ s H C cl fp, PTs (Blk X scope s H C cl fp) ifs (tT X.K b (F x (wipeS S1 (own.map (·.2)))) (p x) (F x (wipeS S1 (own.map (·.2))))))
    (he : ∀ (b : Bx tb) (x : α), x ∈ xs → p x = true → ∀ s H C cl fp, E (Blk X scope s H C cl fp) b (F x (wipeS S1 (own.map (·.2)))) elt (.val (encB (f x))) (F x (wipeS S1 (own.map (·.2)))))
    (hw : ∀ x ∈ xs, wipeS (F x (wipeS S1 (own.map (·.2)))) (own.map (·.2)) = wipeS S1 (own.map (·.2)))
    (hz : xs.length < sizeLine) (no : noOwnB S1 (own.map (·.2)) = true) (k : SS X b (S1.set i (.own true (((xs.filter p).map f).map encB))) rest P) (hs : ∀ x, foldedSetIterable it X.env x = pure x := by intro _; rfl) :
    SS X b S (.Assign [.Name y py] (.ListComp elt [⟨tg, it, ifs, 0⟩] scope pos) spos :: rest) P := by
  let Sw := wipeS S1 (own.map (·.2))
  have ht' := lcT_run (X := X) (F := F) (T := fun _ => Sw) (p := fun _ x => p x) (U := fun _ x => F x Sw) fun b i x hx => ht b x (List.mem_of_getElem? hx)
  have he' := lcE_run (X := X) (xs := xs) (p := fun _ x => p x) (f := fun _ x => encB (f x)) (U := fun _ x => F x Sw) (W := fun _ x => F x Sw) fun b i x hx hp => he b x (List.mem_of_getElem? hx) hp
  refine ss_cons (Mid := fun S' => S' = S1.set i (.own true (((xs.filter p).map f).map encB))) (PS.w (ps_setLc hc hN hy hyl hsw hi ok hg ht' he' hs) fun D σ H ⟨G, st, q1, _⟩ => ?_) fun S' h => by rw [h]; exact k
  refine lc_sem gd hj rfl (fun i x hx => ?_) (fun _ _ _ _ => trivial) hz (NoOwn.of no) σ H _ ⟨G, st, fun v G2 H2 st2 x2 r2 => ?_⟩
  · have := hw x (List.mem_of_getElem? hx)
    by_cases c : p x = true <;> simp only [c, if_true, Bool.false_eq_true, if_false] <;> exact this
  · rw [back_self] at st2 r2
    rw [lcOut_const] at r2
    refine q1 G2 H2 _ _ (st2.putNew (xs := ((xs.filter p).map f).map encB) ?_) x2 rfl
    rw [List.map_map]
    exact r2
/-- found += e, found an own list -/
def rExtR : R2 := fun x y H Q => ∃ l b xs zs, x = .ref l ∧ y = .ref b ∧ H l = some (.lst xs) ∧ Rd H b (.lst zs) ∧ xs.length + zs.length ≤ sizeLine ∧ Q (.ref l) (upd H l (.lst (xs ++ zs)))
theorem iop_extR : PIp X .Add rExtR := by
  intro pn s σ H x y v u Q I rx ry h
  obtain ⟨l, b, xs, ys, rfl, rfl, hX, hY, hSz, q⟩ := h
  cases rx
  cases ry
  obtain ⟨z, us1, n, rv1, len1, at1⟩ := I.lstM hX
  obtain ⟨z2, us2, n2, rv2, at2⟩ := hY.ok I.hok
  have len2 := rv2.length
  have hFit : us1.toArray.size + us2.toArray.size ≤ sizeLine := by rw [List.size_toArray, List.size_toArray]; omega
  have hNo : ¬ (!us1.toArray.isEmpty && Builtin.List.listTooLong (us1.toArray.size + us2.toArray.size)) = true := by
    rw [notLongL hFit, Bool.and_false]
    exact Bool.false_ne_true
  refine iadd_road ⟨_, at1, rfl⟩ ⟨_, at2, rfl⟩ (call_meets PySem.F.slot_list_iadd ⟨_, at1, rfl⟩ PySem.F.entry_list_iadd (PySem.F.args_list_iadd_2 _ _)
    (AutoSeq1.list___iadd___list_list_0 l us1.toArray n b us2.toArray n2 hNo (by rw [List.size_toArray]; omega) (by omega)) ⟨at1, at2, ?_⟩)
  refine ⟨.ref l, _, I.lset (its' := us1 ++ us2) (t' := s.toks) hX at1 (by simp) (rv1.append rv2) ?_, rfl, q⟩
  rw [List.length_append]
  omega
theorem B_ext (i : Nat) {x : Str} {px : Pos} {l : Bool} {zs : List PyData} (hs : S[i]? = some (.own l xs)) (he : E X b S e (.val (.list zs)) S1) (hs1 : S1[i]? = some (.own l ys)) (hz : ys.length + zs.length ≤ sizeLine) (hN : X.N.Nodup) (hi : X.N[i]? = some x) (hx : Loc X.env.scope x) (k : SS X b (S1.set i (.own l (ys ++ zs))) rest P) (hf : X.fn x = true ∨ X.env.scope.names.lookup x = some .local := by first | exact .inl rfl | exact .inr rfl) :
    SS X b S (.AugAssign (.Name x px) .Add e pos :: rest) P :=
  ss_cons (Mid := fun S' => S' = S1.set i (.own l (ys ++ zs))) (PS.w (ps_aug hN hi hx he iop_extR hf) fun D σ H ⟨G, st, q1, _⟩ => by
    obtain ⟨a, vs, h1, ap, h2, rv⟩ := st.slotO hs
    refine ⟨_, h1, G, st, fun w G2 H2 st2 x2 r2 => ?_⟩
    obtain ⟨a', vs', h1', ap', h2', rv'⟩ := st2.slotO hs1
    have ea : a' = a := by rw [h1] at h1'; cases h1'; rfl
    subst ea
    cases r2 with
    | lst h3 t3 =>
      refine ⟨a', _, vs', _, rfl, rfl, h2', st2.sub.rd h3, by rw [rv'.length, t3.length]; exact hz, ?_⟩
      have s5 := st2.write (s' := .own l (ys ++ zs)) h1 hs1 rfl rfl rfl ⟨_, upd_same, rv'.append t3⟩
      have e9 : σ.set i (some (V.ref a')) = σ := set_same h1
      show D.nx (σ.set i (some (V.ref a'))) _
      rw [e9]
      exact q1 G2 _ σ _ s5 x2 rfl) fun S' h => by rw [h]; exact k
end

/-! ### defs -/
/-- a def that hands back data: of the arguments ds the data d, by pre -/
def spV (K : PySem.W.Frag) (tb : Tbs) (pre : List PyData → PyData → Prop) : Sp := fun vs H Q _ => ∃ G ds d, pre ds d ∧ (∀ q ∈ tb, TabX G H q) ∧ Ex G H ∧ RpA K G vs ds ∧
  ∀ v G' H', (∀ q ∈ tb, TabX G' H' q) → Ex G G' → New G G' H → Ex G' H' → Ex H H' → (∀ a, H' a = none → H a = none) → Rp K G' v d → Q v H'
/-- a def whose first argument is a list that it changes: pre of the list ahead, the other arguments, the data handed back, the list behind -/
def spR (K : PySem.W.Frag) (tb : Tbs) (pre : List PyData → List PyData → PyData → List PyData → Prop) : Sp := fun vs H Q _ => ∃ G p rs ws xs ds d xs', pre xs ds d xs' ∧ (∀ q ∈ tb, TabX G H q) ∧ vs = .ref p :: ws ∧ Ex G H ∧ H p = some (.lst rs) ∧ RpA K G rs xs ∧ G p = none ∧ RpA K G ws ds ∧
  ∀ v G' H' rs', (∀ q ∈ tb, TabX G' H' q) → Ex G G' → New G G' H → Ex G' H' → (∀ a o, a ≠ p → H a = some o → Kp o (H' a)) → (∀ a, H' a = none → H a = none) → G' p = none → H' p = some (.lst rs') → RpA K G' rs' xs' → Rp K G' v d → Q v H'
/-- the def named x keeps its promise, at level k -/
def Fd (P : Program) (w : World) (K : PySem.W.Frag) (mg : Str → Option Value) (base : Heap) (k : Nat) (x : Str) (ps : List Str) (sp : Sp) : Prop := ∃ (f : Addr) (fd : FuncData), FnOk P w K mg base CX0 k f fd ps sp ∧ mg x = some (.ref f) ∧ PySem.W.keepIn K (.ref f) = true ∧ Binds K fd ps []
section
variable {X : Cx} {tb : Tbs} {b : Bx tb} {S S1 S2 S3 : List Sl} {e f : Expr} {es : List Expr} {d : PyData} {ds xs xs' : List PyData} {pos p : Pos} {k : Nat} {x : Str} {ps : List Str}
theorem StOk.called {K : PySem.W.Frag} {G H G' H' : Hp} {σ : L2.St} (st : StOk K b G H σ S) (x0 : ∀ q ∈ tb, TabX G' H' q) (x1 : Ex G G') (nw : New G G' H) (x2 : Ex G' H') (x3 : Ex H H') (x4 : ∀ a, H' a = none → H a = none) : StOk K b G' H' σ S := by
  have key : ∀ i q, Owns σ S i q → H' q = H q ∧ G' q = none := fun i q w => by
    obtain ⟨⟨s, e1, hs⟩, e2⟩ := w
    obtain ⟨ap, oa⟩ := st.owns e1 hs e2
    refine ⟨?_, ?_⟩
    · cases s with
      | own l xs => obtain ⟨vs, e, _⟩ := oa; rw [e]; exact x3.at_ e
      | dic xs => obtain ⟨vs, e, _⟩ := oa; rw [e]; exact x3.at_ e
      | ins l C fs => obtain ⟨dx, vs, e, _⟩ := oa; rw [e]; exact x3.at_ e
      | _ => cases hs
    · cases e : G' q with
      | none => rfl
      | some u =>
        rcases nw q (by rw [e]; intro z; cases z) with z | z
        · exact absurd ap.hg z
        · exact absurd z oa.some
  refine st.move x0 x1 x2 (st.base.trans x3) (fun a h => st.nw a (x4 a h)) (fun a h => ?_) key
  rcases nw a h with z | z
  · exact st.gn a z
  · exact .inr (st.nw a z)
theorem E_call {pre : List PyData → PyData → Prop} (F : Fd X.prog X.w X.K X.mg X.base k x ps (spV X.K tb pre)) (hr : Room k X.A) (hg : Gl X x) (ha : A X b S (e :: es) ds S1) (hp : pre ds d) (hdb : (x == ("__debug__" : Str)) = false := by decide) (he : starEach (e :: es) X.env = (false, eval e X.env) :: starEach es X.env := by rfl) (hpl : (backTo pos (starEach es X.env)).any (·.1) = false := by rfl) :
    E X b S (.Call (.Name x p) (e :: es) [] pos) (.val d) S1 := by
  obtain ⟨fa, fd, F, hm, hk, hb⟩ := F
  refine PE.w (pe_call F hr hg hm hk hb .nil pass0 ha hdb he hpl) fun σ H Q ⟨G, st, q⟩ => ⟨G, st, fun vs G2 H2 st2 x2 r2 => ?_⟩
  show spV X.K tb pre (vs ++ []) H2 Q E0
  rw [List.append_nil]
  exact ⟨G2, ds, d, hp, st2.tabs, st2.sub, r2, fun v G' H' y0 y1 y2 y3 y4 y5 rv => q v G' H' (st2.called y0 y1 y2 y3 y4 y5) (x2.trans y1) rv⟩
theorem E_call0 {pre : List PyData → PyData → Prop} (F : Fd X.prog X.w X.K X.mg X.base k x ps (spV X.K tb pre)) (hr : Room k X.A) (hg : Gl X x) (hp : pre [] d) (hdb : (x == ("__debug__" : Str)) = false := by decide) :
    E X b S (.Call (.Name x p) [] [] pos) (.val d) S := by
  obtain ⟨fa, fd, F, hm, hk, hb⟩ := F
  refine PE.w (pe_call0 F hr hg hm hk hb .nil pass0 hdb) fun σ H Q ⟨G, st, q⟩ => ?_
  exact ⟨G, [], d, hp, st.tabs, st.sub, .nil, fun v G' H' y0 y1 y2 y3 y4 y5 rv => q v G' H' (st.called y0 y1 y2 y3 y4 y5) y1 rv⟩
/-- f(row, e, ..), row an own list that f changes -/
theorem E_callR (i : Nat) {y : Str} {py : Pos} {l : Bool} {pre : List PyData → List PyData → PyData → List PyData → Prop} (F : Fd X.prog X.w X.K X.mg X.base k x ps (spR X.K tb pre)) (hr : Room k X.A) (hg : Gl X x) (hy : PE X (.Name y py) (tVar i)) (ha : A X b S es ds S1) (hs1 : S1[i]? = some (.own l xs)) (hs0 : ∃ xs0, S[i]? = some (.own l xs0)) (hp : pre xs ds d xs')
    (hdb : (x == ("__debug__" : Str)) = false := by decide) (he : starEach (.Name y py :: es) X.env = (false, eval (.Name y py) X.env) :: starEach es X.env := by rfl) (hpl : (backTo pos (starEach es X.env)).any (·.1) = false := by rfl) :
    E X b S (.Call (.Name x p) (.Name y py :: es) [] pos) (.val d) (S1.set i (.own l xs')) := by
  obtain ⟨fa, fd, F, hm, hk, hb⟩ := F
  obtain ⟨xs0, hs0⟩ := hs0
  refine PE.w (pe_call F hr hg hm hk hb .nil pass0 (pa_cons hy ha he) hdb he hpl) fun σ H Q ⟨G, st, q⟩ => ?_
  obtain ⟨a0, vs0, h10, _⟩ := st.slotO hs0
  refine ⟨_, h10, G, st, fun ws G2 H2 st2 x2 r2 => ?_⟩
  obtain ⟨a, vs, h1, ap, h2, rv⟩ := st2.slotO hs1
  have ea : a0 = a := by rw [h10] at h1; cases h1; rfl
  subst ea
  show spR X.K tb pre (.ref a0 :: ws ++ []) H2 Q E0
  rw [List.append_nil]
  refine ⟨G2, a0, vs, ws, xs, ds, d, xs', hp, st2.tabs, rfl, st2.sub, h2, rv, ap.hg, r2, fun v G' H' rs' y0 y1 y2 y3 y4 y5 y6 y7 y8 rv' => ?_⟩
  refine q v G' H' ?_ (x2.trans y1) rv'
  -- first the others, then the row
  have w : Owns σ S1 i a0 := ⟨⟨_, hs1, rfl⟩, h1⟩
  have hH' : H' = upd (fun c => if c = a0 then some (HO.lst vs) else H' c) a0 (.lst rs') := by
    funext c
    unfold upd
    by_cases e : c = a0
    · rw [if_pos e, e, y7]
    · rw [if_neg e]; exact (if_neg e).symm
  have st3 : StOk X.K b G' (fun c => if c = a0 then some (HO.lst vs) else H' c) σ S1 := by
    refine st2.called (fun q hq => (y0 q hq).same (if_neg ((y0 q hq).ne y6))) y1 y2 (fun c o e => ?_) (fun c o e => ?_) (fun c e => ?_)
    · have hn : c ≠ a0 := fun z => by subst z; rw [y6] at e; cases e
      show Kp o (if c = a0 then _ else _)
      rw [if_neg hn]
      exact y3 c o e
    · show Kp o (if c = a0 then _ else _)
      by_cases hn : c = a0
      · subst hn
        rw [if_pos rfl]
        rw [h2] at e; cases e; exact kp_refl _
      · rw [if_neg hn]; exact y4 c o hn e
    · by_cases hn : c = a0
      · subst hn
        have e' : (if c = c then some (HO.lst vs) else H' c) = none := e
        rw [if_pos rfl] at e'; cases e'
      · have e' : (if c = a0 then some (HO.lst vs) else H' c) = none := e
        rw [if_neg hn] at e'
        exact y5 c e'
  rw [hH']
  exact st3.write (s' := .own l xs') h1 hs1 rfl rfl rfl ⟨_, upd_same, y8⟩
end

/-! ### bodies -/
/-- the slots at a def's start -/
def slots0 (N : List Str) (ss : List Sl) : List Sl := ss ++ List.replicate (N.length - ss.length) .emp
theorem rp_slots {K : PySem.W.Frag} {tb : Tbs} {b : Bx tb} {G H : Hp} {N : List Str} : ∀ {vs : List V} {ds : List PyData}, RpA K G vs ds → ∀ (i : Nat) s, (ds.map Sl.val)[i]? = some s → ∃ o, (vs.map some)[i]? = some o ∧ SlOk K b G H o s := fun {vs ds} r i s h => by
  rw [List.getElem?_map] at h
  cases q : ds[i]? with
  | none => rw [q] at h; cases h
  | some d =>
    rw [q] at h
    cases h
    obtain ⟨v, hv, rv⟩ := r.get q
    exact ⟨some v, by rw [List.getElem?_map, hv] <;> rfl, v, rfl, rv⟩
theorem st_start {K : PySem.W.Frag} {tb : Tbs} {W : WX} {G H : Hp} {N : List Str} {vs : List V} {ds : List PyData} (x : Ex G H) (ht : ∀ q ∈ tb, TabX G H q) (r : RpA K G vs ds) : StOk K (⟨H, G, H, W⟩ : Bx tb) G H (L2.start N vs) (slots0 N (ds.map Sl.val)) where
  sub := x
  base := Ex.refl H
  g0 := Ex.refl G
  nw := fun _ h => h
  gn := fun a h => .inl h
  tabs := ht
  len := by unfold L2.start slots0; simp [r.length]
  at_ := fun i s h => by
    unfold slots0 at h
    unfold L2.start
    by_cases c : i < (ds.map Sl.val).length
    · rw [List.getElem?_append_left c] at h
      obtain ⟨o, h1, h2⟩ := rp_slots (b := (⟨H, G, H, W⟩ : Bx tb)) (H := H) (N := N) r i s h
      exact ⟨o, by rw [List.getElem?_append_left (by simpa [r.length] using c)]; exact h1, h2⟩
    · rw [List.getElem?_append_right (by omega), List.getElem?_replicate] at h
      split at h
      · cases h
        refine ⟨none, ?_, trivial⟩
        rw [List.getElem?_append_right (by simp [r.length]; simpa using c), List.getElem?_replicate]
        rename_i hh
        simp only [List.length_map] at hh ⊢
        rw [r.length, if_pos hh]
      · cases h
  sep := fun i j p w1 w2 => by
    exfalso
    obtain ⟨⟨s, e, hs⟩, _⟩ := w1
    have : s.owned = false := by
      unfold slots0 at e
      by_cases c : i < (ds.map Sl.val).length
      · rw [List.getElem?_append_left c, List.getElem?_map] at e
        cases q : ds[i]? with
        | none => rw [q] at e; cases e
        | some d => rw [q] at e; cases e; rfl
      · rw [List.getElem?_append_right (by omega), List.getElem?_replicate] at e
        split at e
        · cases e; rfl
        · cases e
    rw [this] at hs; cases hs
/-- what a body is to show: it hands back d -/
def poV (d : PyData) : Po := { nx := fun _ => d = .none, rt := fun d' _ => d' = d }
theorem fn_mk {P : Program} {w : World} {K : PySem.W.Frag} {tb : Tbs} {mg : Str → Option Value} {base : Heap} {x qual : Str} {st : Stmt} {f : Addr} {fd : FuncData} {N ps : List Str} {k : Nat} {pre : List PyData → PyData → Prop} (F : Fun K x qual st f fd) (S : FnScope N ps (defScope st)) 
    (hb : ∀ (kV doc pm : Value) (an : Option Addr) (cdv ct : Value) (us : List Value), us.length = ps.length → bindArgs (PySem.W.fnOf x qual (defArgs st) (defBody st) (defScope st) .none kV doc pm an cdv ct) ⟨us, []⟩ = pure (ps.zip us))
    (len : ∀ ds d, pre ds d → ds.length = ps.length)
    (body : ∀ (cdv : Value) (A : Around) (outer : List Env) (s : Shared) (H : Hp) (E : XK) (b : Bx tb) (ds : List PyData) (d : PyData), Room k (A.deeper (envOfC qual (defScope st) s.heap.objs.size f cdv)) → pre ds d →
      SS (cxOf CX0 P w K mg base N qual (defScope st) f cdv A outer s H E).nox b (slots0 N (ds.map Sl.val)) (defBody st) (poV d)) : FnOk P w K mg base CX0 (k + 1) f fd ps (spV K tb pre) := by
  refine F.ok S (fun vs H Q E h => ?_) (fun cdv A outer s H vs Q E hr h => ?_)
  · obtain ⟨G, ds, d, hp, _, _, r, _⟩ := h
    rw [r.length]; exact len ds d hp
  · obtain ⟨G, ds, d, hp, ht, x, r, q⟩ := h
    refine ⟨_, body cdv A outer s H E ⟨H, G, H, W0⟩ ds d hr hp, G, st_start x ht r, ?_, ?_, ?_, ?_, ?_⟩
    · intro G2 H2 σ2 S2 st2 x2 hd
      have hd' : d = .none := hd
      subst hd'
      exact q .non G2 H2 st2.tabs st2.g0 st2.gn st2.sub st2.base st2.nw .non
    · intro v G2 H2 σ2 S2 d2 st2 x2 rv hd
      have hd' : d2 = d := hd
      subst hd'
      exact q v G2 H2 st2.tabs st2.g0 st2.gn st2.sub st2.base st2.nw rv
    · exact fun _ _ _ _ _ _ z => z.elim
    · exact fun _ _ _ _ _ _ z => z.elim
    · exact fun _ _ _ _ _ _ _ _ _ _ z => z.elim
theorem fd_mk {P : Program} {w : World} {K : PySem.W.Frag} {tb : Tbs} {mg : Str → Option Value} {base : Heap} {x qual : Str} {st : Stmt} {f : Addr} {fd : FuncData} {N ps : List Str} {k : Nat} {pre : List PyData → PyData → Prop} (F : Fun K x qual st f fd) (S : FnScope N ps (defScope st)) (hm : mg x = some (.ref f))
    (hb : ∀ (kV doc pm : Value) (an : Option Addr) (cdv ct : Value) (us : List Value), us.length = ps.length → bindArgs (PySem.W.fnOf x qual (defArgs st) (defBody st) (defScope st) .none kV doc pm an cdv ct) ⟨us, []⟩ = pure (ps.zip us))
    (len : ∀ ds d, pre ds d → ds.length = ps.length)
    (body : ∀ (cdv : Value) (A : Around) (outer : List Env) (s : Shared) (H : Hp) (E : XK) (b : Bx tb) (ds : List PyData) (d : PyData), Room k (A.deeper (envOfC qual (defScope st) s.heap.objs.size f cdv)) → pre ds d →
      SS (cxOf CX0 P w K mg base N qual (defScope st) f cdv A outer s H E).nox b (slots0 N (ds.map Sl.val)) (defBody st) (poV d)) : Fd P w K mg base (k + 1) x ps (spV K tb pre) :=
  ⟨f, fd, fn_mk F S hb len body, hm, F.kp, F.binds hb⟩
/-- the walk, from the law's promise -/
theorem law_walk {l : PySem.W.OpenLaw} {q : Program} {loose : List Str} {XP : (Str → Option Value) → Heap → Prop} {YP : World → Heap → Prop} {d : DefRec} {K : Params → PySem.W.Frag} {k : Nat} {pre : List PyData → PyData → Prop} (hpre : ∀ ns : List Int, ns.length ≤ 63 → pre [scrD ns] (.bool true)) (hr : Room k callerA) (hn : l.most = some 63) (hdf : d.params.defaults = [])
    (hY : ∀ (w : World) (h : Heap), YP w h → (K w.params).In h)
    (F : ∀ (w : World) (mg : Str → Option Value) (fa : Addr) (h : Heap), (K w.params).In h → h.Ns mainGlobals mg → mg d.name = some (.ref fa) →
      ∃ fd : FuncData, (∀ (s : Shared) (u : Value), BindsTo s fd ⟨[u], []⟩ [("_law_script", u)]) ∧ ∀ base : Heap, (K w.params).In base → base.Ns mainGlobals mg → FnOk l.prog w (K w.params) mg base CX0 k fa fd ["_law_script"] (spV (K w.params) [] pre)) :
    PySem.W.WalkO q loose XP YP l.row.toRowW d [] (fun f vs => PySem.call f vs) :=
  L2.walk_of (n := 63) (k := k) (x := "_law_script") (CX := fun _ => CX0) (sp := fun w => spV (K w.params) [] pre) hn (by decide) hdf hr hY F
    (fun _ H a ns hl _ hS => ⟨H, [scrD ns], .bool true, hpre ns hl, (fun _ z => by cases z), Ex.refl H, .cons (.scr hS) .nil, fun v _ _ _ _ _ _ _ _ rv => by cases rv; rfl⟩) fun _ _ _ _ _ z => z
end D

set_option Elab.async false
set_option linter.all false
set_option maxRecDepth 100000
set_option maxHeartbeats 1000000
set_option autoImplicit false
/-! Dl7: rules for ints, tuples and lists of ints; module constants; the builtins' names. -/
namespace D
open PySem PySem.Spec PyProof.Rows L2
abbrev dT (ns : List Int) : PyData := .tuple (ns.map .int)
abbrev dL (ns : List Int) : PyData := .list (ns.map .int)
abbrev dLT (ts : List (List Int)) : PyData := .list (ts.map dT)
/-- the builtins' names are no names of the module -/
structure Bt (mg : Str → Option Value) : Prop where
  len : mg "len" = none
  sum : mg "sum" = none
  min : mg "min" = none
  max : mg "max" = none
  sorted : mg "sorted" = none
  isinstance : mg "isinstance" = none
  int : mg "int" = none
  bool : mg "bool" = none
  str : mg "str" = none
  tuple : mg "tuple" = none
  list : mg "list" = none
  dict : mg "dict" = none
  set : mg "set" = none
  range : mg "range" = none
  enumerate : mg "enumerate" = none
  zip : mg "zip" = none
  reversed : mg "reversed" = none
  all : mg "all" = none
  any : mg "any" = none
theorem hu64 {k : Nat} {A : Around} (hr : Room k A) : A.units + 64 < cLine := by have := hr.un; omega
section
variable {X : Cx} {tb : Tbs} {b : Bx tb} {S S1 S2 S3 : List Sl} {e f g : Expr} {es : List Expr} {r r' : Rs} {d d' : PyData} {xs ys : List PyData} {pos p : Pos} {c c' : Bool} {n m i j : Int} {ns ms : List Int}
theorem E_to (h : E X b S e (.val d) S1) (q : d = d') : E X b S e (.val d') S1 := q ▸ h
theorem E_toN (h : E X b S e (.new xs) S1) (q : xs = ys) : E X b S e (.new ys) S1 := q ▸ h
theorem T_to (h : T X b S e c S1) (q : c = c') : T X b S e c' S1 := q ▸ h
theorem E_glob {x : Str} (h : ∃ t, X.mg x = some (.int n t)) (hg : Gl X x := by rfl) (hd : (x == ("__debug__" : Str)) = false := by decide) : E X b S (.Name x pos) (.val (.int n)) S := by
  obtain ⟨t, h⟩ := h
  exact E_c (pe_glob (v := .int n) hg h ⟨_, rfl⟩ hd) fun _ => .int _
theorem E_neg {jj : Nat} {p1 : Pos} : E X b S (.UnaryOp .USub (.Constant (.int n) jj p1) pos) (.val (.int (-n))) S :=
  PE.w (pe_un un_neg pe_int) fun σ H Q ⟨G, st, q⟩ => ⟨n, rfl, q _ G H st (Ex.refl G) (.int _)⟩
theorem sz_ble {k : Nat} (h : Nat.ble k 100000 = true) : k ≤ sizeLine := Nat.le_trans (Nat.le_of_ble_eq_true h) (by decide)
theorem sz_le {k : Nat} (h : k ≤ 100000) : k ≤ sizeLine := Nat.le_trans h (by decide)
theorem sz_lt {k : Nat} (h : k < 100000) : k < sizeLine := Nat.lt_of_lt_of_le h (by decide)
theorem E_tupD {jj : Nat} (h : A X b S es xs S1) (hl : Nat.ble xs.length 100000 = true := by rfl) : E X b S (.Tuple es jj pos) (.val (.tuple xs)) S1 := E_tup h (sz_ble hl)
theorem E_lstD (h : A X b S es xs S1) (hl : Nat.ble xs.length 100000 = true := by rfl) : E X b S (.List es pos) (.new xs) S1 := E_lst h (sz_ble hl)
theorem E_tup1i {jj : Nat} (h : E X b S e (.val (.int n)) S1) (hs : starEach [e] X.env = (false, eval e X.env) :: starEach [] X.env := by rfl) : E X b S (.Tuple [e] jj pos) (.val (dT [n])) S1 := E_tup (A_cons h A_nil hs) (sz_ble rfl)
theorem E_tup0 {jj : Nat} : E X b S (.Tuple [] jj pos) (.val (dT [])) S := E_tup A_nil (sz_ble rfl)
theorem E_catTi (ha : E X b S1 e (.val (dT ns)) S2) (hb : E X b S2 f (.val (dT ms)) S3) (hl : ns.length + ms.length ≤ 100000) : E X b S1 (.BinOp e .Add f pos) (.val (dT (ns ++ ms))) S3 :=
  E_to (E_catT ha hb (by rw [List.length_map, List.length_map]; exact sz_le hl)) (by rw [← List.map_append])
theorem E_catLi (ha : E X b S1 e (.val (dL ns)) S2) (hb : E X b S2 f (.val (dL ms)) S3) (hl : ns.length + ms.length ≤ 100000) : E X b S1 (.BinOp e .Add f pos) (.new ((ns ++ ms).map .int)) S3 :=
  E_toN (E_cat ha hb (by rw [List.length_map, List.length_map]; exact sz_le hl)) (by rw [← List.map_append])
theorem E_eqi (ha : E X b S1 e (.val (.int i)) S2) (hb : E X b S2 f (.val (.int j)) S3) : E X b S1 (.Compare e [.Eq] [f] pos) (.val (.bool (decide (i = j)))) S3 :=
  E_cmp op_eq (fun G H σ v w Q st r1 r2 q => by
    cases r1; cases r2
    have e : decide (V.int i = V.int j) = decide (i = j) := by
      by_cases h : i = j
      · subst h; simp
      · rw [decide_eq_false h, decide_eq_false (fun z => h (by injection z))]
    exact ⟨rfl, by rw [e]; exact q _ G H st (Ex.refl G) (.bl _)⟩) (nomark _) ha hb
theorem E_nei (ha : E X b S1 e (.val (.int i)) S2) (hb : E X b S2 f (.val (.int j)) S3) : E X b S1 (.Compare e [.NotEq] [f] pos) (.val (.bool (!decide (i = j)))) S3 :=
  E_cmp op_ne (fun G H σ v w Q st r1 r2 q => by
    cases r1; cases r2
    have e : decide (V.int i = V.int j) = decide (i = j) := by
      by_cases h : i = j
      · subst h; simp
      · rw [decide_eq_false h, decide_eq_false (fun z => h (by injection z))]
    exact ⟨rfl, by rw [e]; exact q _ G H st (Ex.refl G) (.bl _)⟩) (nomark _) ha hb
/-- an int product, one factor small -/
theorem E_muls (ha : E X b S1 e (.val (.int i)) S2) (hb : E X b S2 f (.val (.int j)) S3) (h : -(2 ^ 64) < i ∧ i < 2 ^ 64) : E X b S1 (.BinOp e .Mult f pos) (.val (.int (i * j))) S3 := E_mul ha hb (.inl h)
theorem E_lst1i (h : E X b S e (.val (.int n)) S1) (hs : starEach [e] X.env = (false, eval e X.env) :: starEach [] X.env := by rfl) : E X b S (.List [e] pos) (.new ([n].map .int)) S1 := E_lst (A_cons h A_nil hs) (sz_ble rfl)
/-! ### comparisons as tests -/
theorem T_cmp {op : CmpOp} {rr : R2} {da db : PyData} (ho : OpR X (compareOp op) rr) (hr : R2D X.K b S3 rr da db (.val (.bool c))) (hm : behindInMarks op f = false) (ha : E X b S1 e (.val da) S2) (hb : E X b S2 f (.val db) S3) : T X b S1 (.Compare e [op] [f] pos) c S3 :=
  PT.w (pt_cmpR ho ha hb hm) fun σ H Q ⟨G, st, q⟩ => ⟨G, st, fun v G2 H2 st2 x r1 => ⟨G2, st2, fun w G3 H3 st3 x3 r2 =>
    hr G3 H3 σ v w _ st3 (Rp.mono x3 r1) r2 fun z G4 H4 st4 x4 rz => by cases rz; exact ⟨c, rfl, q G4 H4 st4 (x.trans (x3.trans x4))⟩⟩⟩
theorem T_lt (ha : E X b S1 e (.val (.int i)) S2) (hb : E X b S2 f (.val (.int j)) S3) : T X b S1 (.Compare e [.Lt] [f] pos) (decide (i < j)) S3 := T_cmp op_lt (r2_int fun _ => .bl _) (nomark _) ha hb
theorem T_le (ha : E X b S1 e (.val (.int i)) S2) (hb : E X b S2 f (.val (.int j)) S3) : T X b S1 (.Compare e [.LtE] [f] pos) (decide (i ≤ j)) S3 := T_cmp op_le (r2_int fun _ => .bl _) (nomark _) ha hb
theorem T_gt (ha : E X b S1 e (.val (.int i)) S2) (hb : E X b S2 f (.val (.int j)) S3) : T X b S1 (.Compare e [.Gt] [f] pos) (decide (j < i)) S3 := T_cmp op_gt (r2_int fun _ => .bl _) (nomark _) ha hb
theorem T_ge (ha : E X b S1 e (.val (.int i)) S2) (hb : E X b S2 f (.val (.int j)) S3) : T X b S1 (.Compare e [.GtE] [f] pos) (decide (j ≤ i)) S3 := T_cmp op_ge (r2_int fun _ => .bl _) (nomark _) ha hb
theorem T_eq {da db : PyData} (hu : X.A.units + 64 < cLine) (ha : E X b S1 e (.val da) S2) (hb : E X b S2 f (.val db) S3) (h1 : SeqAt.shaped da = true) (h2 : SeqAt.shaped db = true) : T X b S1 (.Compare e [.Eq] [f] pos) (PyData.eqv da db) S3 :=
  T_cmp (op_eqD hu) (fun G H σ v w Q st r1 r2 q => ⟨da, db, Rp.dp _ (r1.mono st.sub) (SeqAt.canLay_of_shaped h1), Rp.dp _ (r2.mono st.sub) (SeqAt.canLay_of_shaped h2), h1, h2, q _ G H st (Ex.refl G) (.bl _)⟩) (nomark _) ha hb
theorem T_ne {da db : PyData} (hu : X.A.units + 64 < cLine) (ha : E X b S1 e (.val da) S2) (hb : E X b S2 f (.val db) S3) (h1 : SeqAt.shaped da = true) (h2 : SeqAt.shaped db = true) : T X b S1 (.Compare e [.NotEq] [f] pos) (!PyData.eqv da db) S3 :=
  T_cmp (op_neD hu) (fun G H σ v w Q st r1 r2 q => ⟨da, db, Rp.dp _ (r1.mono st.sub) (SeqAt.canLay_of_shaped h1), Rp.dp _ (r2.mono st.sub) (SeqAt.canLay_of_shaped h2), h1, h2, q _ G H st (Ex.refl G) (.bl _)⟩) (nomark _) ha hb
theorem eqvi {K : PySem.W.Frag} : R2D K b S rEq (.int i) (.int j) (.val (.bool (decide (i = j)))) := fun G H σ v w Q st r1 r2 q => by
  cases r1; cases r2
  have e : decide (V.int i = V.int j) = decide (i = j) := by
    by_cases h : i = j
    · subst h; simp
    · rw [decide_eq_false h, decide_eq_false (fun z => h (by injection z))]
  exact ⟨rfl, by rw [e]; exact q _ G H st (Ex.refl G) (.bl _)⟩
theorem nevi {K : PySem.W.Frag} : R2D K b S rNe (.int i) (.int j) (.val (.bool (!decide (i = j)))) := fun G H σ v w Q st r1 r2 q => by
  cases r1; cases r2
  have e : decide (V.int i = V.int j) = decide (i = j) := by
    by_cases h : i = j
    · subst h; simp
    · rw [decide_eq_false h, decide_eq_false (fun z => h (by injection z))]
  exact ⟨rfl, by rw [e]; exact q _ G H st (Ex.refl G) (.bl _)⟩
theorem T_eqi (ha : E X b S1 e (.val (.int i)) S2) (hb : E X b S2 f (.val (.int j)) S3) : T X b S1 (.Compare e [.Eq] [f] pos) (decide (i = j)) S3 := T_cmp op_eq eqvi (nomark _) ha hb
theorem T_nei (ha : E X b S1 e (.val (.int i)) S2) (hb : E X b S2 f (.val (.int j)) S3) : T X b S1 (.Compare e [.NotEq] [f] pos) (!decide (i = j)) S3 := T_cmp op_ne nevi (nomark _) ha hb
theorem T_isN {da : PyData} {p2 : Pos} {jj : Nat} (ha : E X b S1 e (.val da) S2) : T X b S1 (.Compare e [.Is] [.Constant .none jj p2] pos) (isNoneD da) S2 :=
  T_cmp op_isN (fun G H σ v w Q st r1 r2 q => by cases r2; exact ⟨rfl, by rw [isNone_of r1]; exact q _ G H st (Ex.refl G) (.bl _)⟩) (nomark _) ha E_none
theorem T_notN {da : PyData} {p2 : Pos} {jj : Nat} (ha : E X b S1 e (.val da) S2) : T X b S1 (.Compare e [.IsNot] [.Constant .none jj p2] pos) (!isNoneD da) S2 :=
  T_cmp op_notN (fun G H σ v w Q st r1 r2 q => by cases r2; exact ⟨rfl, by rw [isNone_of r1]; exact q _ G H st (Ex.refl G) (.bl _)⟩) (nomark _) ha E_none
theorem T_inL (ha : E X b S1 e (.val (.int n)) S2) (hb : E X b S2 f (.val (dL ns)) S3) (hm : behindInMarks .In f = false) : T X b S1 (.Compare e [.In] [f] pos) (decide (n ∈ ns)) S3 := T_cmp op_in_seq (r2_inL (neg := false)) hm ha hb
theorem T_niL (ha : E X b S1 e (.val (.int n)) S2) (hb : E X b S2 f (.val (dL ns)) S3) (hm : behindInMarks .NotIn f = false) : T X b S1 (.Compare e [.NotIn] [f] pos) (!decide (n ∈ ns)) S3 := T_cmp op_notIn_seq (r2_inL (neg := true)) hm ha hb
theorem T_inT (ha : E X b S1 e (.val (.int n)) S2) (hb : E X b S2 f (.val (dT ns)) S3) (hm : behindInMarks .In f = false) : T X b S1 (.Compare e [.In] [f] pos) (decide (n ∈ ns)) S3 := T_cmp op_in_seq (r2_inT (neg := false)) hm ha hb
theorem T_niT (ha : E X b S1 e (.val (.int n)) S2) (hb : E X b S2 f (.val (dT ns)) S3) (hm : behindInMarks .NotIn f = false) : T X b S1 (.Compare e [.NotIn] [f] pos) (!decide (n ∈ ns)) S3 := T_cmp op_notIn_seq (r2_inT (neg := true)) hm ha hb
theorem T_lele {k : Int} (ha : E X b S1 e (.val (.int i)) S2) (hb : E X b S2 f (.val (.int j)) S3) (hc : decide (i ≤ j) = true → E X b S3 g (.val (.int k)) S3) (hm : lastMarks [.LtE, .LtE] [f, g] = false := by rfl) : T X b S1 (.Compare e [.LtE, .LtE] [f, g] pos) (decide (i ≤ j) && decide (j ≤ k)) S3 := by
  by_cases hk : decide (i ≤ j) = true
  · refine PT.w (pt_chain op_le op_le ha hb (hc hk) hm) fun σ H Q ⟨G, st, q⟩ => ⟨G, st, fun v G2 H2 st2 x r1 => ⟨G2, st2, fun w G3 H3 st3 x3 r2 => ?_⟩⟩
    cases r1; cases r2
    refine ⟨i, j, rfl, rfl, decide (i ≤ j), rfl, ?_⟩
    rw [hk]
    show tE X.K b S3 (.val (.int k)) S3 σ H3 _
    refine ⟨G3, st3, fun u G5 H5 st5 x5 r5 => ?_⟩
    cases r5
    refine ⟨j, k, rfl, rfl, decide (j ≤ k), rfl, ?_⟩
    have := q G5 H5 st5 (x.trans (x3.trans x5))
    rw [hk, Bool.true_and] at this
    exact this
  · have hk' : decide (i ≤ j) = false := by simpa using hk
    refine PT.w (pt_chain op_le op_le ha hb PE.ff hm) fun σ H Q ⟨G, st, q⟩ => ⟨G, st, fun v G2 H2 st2 x r1 => ⟨G2, st2, fun w G3 H3 st3 x3 r2 => ?_⟩⟩
    cases r1; cases r2
    refine ⟨i, j, rfl, rfl, decide (i ≤ j), rfl, ?_⟩
    rw [hk']
    have := q G3 H3 st3 (x.trans x3)
    rw [hk', Bool.false_and] at this
    exact ⟨false, rfl, this⟩
/-- the truth of a list or tuple of ints -/
theorem truD_dT (ns : List Int) : truD (dT ns) = !ns.isEmpty := by cases ns <;> rfl
theorem truD_dL (ns : List Int) : truD (dL ns) = !ns.isEmpty := by cases ns <;> rfl
/-- xs[k] of a tuple of ints, k a place -/
theorem atI_get {α : Type} {l : List α} {k : Nat} {x : α} (h : l[k]? = some x) : atI l (k : Int) = some x := by
  have hk : k < l.length := (List.getElem?_eq_some_iff.mp h).1
  unfold atI ixN
  rw [if_pos (by omega), if_pos (by omega)]
  show l[(k : Int).toNat]? = some x
  rw [Int.toNat_natCast]
  exact h
theorem atI_getD {l : List Int} {k : Int} (h0 : 0 ≤ k) (h : k < l.length) : atI l k = some (l.getD k.toNat 0) := by
  have hk : k.toNat < l.length := by omega
  have e : l[k.toNat]? = some l[k.toNat] := List.getElem?_eq_getElem hk
  have := atI_get e
  rw [show ((k.toNat : Nat) : Int) = k by omega] at this
  rw [this, List.getD_eq_getElem?_getD, e] <;> rfl
theorem atI_last {l : List Int} (h : l ≠ []) : atI l (-1) = some (l.getLast h) := by
  have hl : 0 < l.length := List.length_pos_iff.mpr h
  unfold atI ixN
  rw [if_neg (by omega), if_pos (by omega)]
  show l[((-1 : Int) + l.length).toNat]? = _
  rw [show ((-1 : Int) + l.length).toNat = l.length - 1 by omega, List.getLast_eq_getElem, List.getElem?_eq_getElem]
end
end D

set_option Elab.async false
set_option linter.all false
set_option autoImplicit false
/-! Pm: what the defs compute, as plain functions. -/
namespace D
open PySem
/-- is_number -/
def numD (d : PyData) (lo hi : Int) : Bool := match d with
  | .int n => decide (lo ≤ n) && decide (n ≤ hi)
  | _ => false
structure IsBox (ns : List Int) : Prop where
  lo : 1 ≤ ns.length
  hi : ns.length ≤ 10
  pos : ∀ x ∈ ns, 1 ≤ x ∧ x ≤ 1000
  up : ∀ (i : Nat) (x y : Int), ns[i]? = some x → ns[i + 1]? = some y → x ≤ y
/-- light_sums -/
def lightSums (ns : List Int) : List Int := (List.range (ns.length + 1)).map fun i => (ns.take i).sum
/-- the places behind which there is a gap -/
def gaps (ns : List Int) (l : Nat) : List Nat := (List.range (ns.length - l)).filter fun m => decide ((ns.take m).sum + 1 < ns.getD (m + l) 0)
def gapOf (ns : List Int) (l : Nat) : Nat := (gaps ns l).headD (ns.length - l)
def safeOf (ns : List Int) (l : Nat) : Int := (ns.take (gapOf ns l)).sum
theorem minI_eq {ns : List Int} {m : Int} (h1 : m ∈ ns) (h2 : ∀ y ∈ ns, m ≤ y) : minI ns = m := by
  have hz : ns ≠ [] := fun z => by rw [z] at h1; cases h1
  have s := minI_spec hz
  exact Int.le_antisymm (s.2 _ h1) (h2 _ s.1)
theorem gapOf_min (ns : List Int) (l : Nat) (hl : l ≤ ns.length) : minI (((gaps ns l).map fun (m : Nat) => (m : Int)) ++ [((ns.length : Int) - (l : Int))]) = (gapOf ns l : Int) := by
  have hpw : (gaps ns l).Pairwise (· < ·) := (List.pairwise_lt_range (n := ns.length - l)).filter _
  have hlt : ∀ m ∈ gaps ns l, m < ns.length - l := fun m hm => List.mem_range.mp (List.mem_filter.mp hm).1
  unfold gapOf
  cases e : gaps ns l with
  | nil =>
    refine minI_eq (by simp; omega) (fun y hy => ?_)
    simp at hy ⊢
    omega
  | cons m ms =>
    rw [e] at hpw hlt
    refine minI_eq (by simp) (fun y hy => ?_)
    simp only [List.map_cons, List.cons_append, List.mem_cons, List.mem_append, List.mem_map, List.not_mem_nil, or_false] at hy
    show (m : Int) ≤ y
    have h0 := hlt m List.mem_cons_self
    rcases hy with rfl | ⟨z, hz, rfl⟩ | rfl
    · exact Int.le_refl _
    · have := (List.pairwise_cons.mp hpw).1 z hz
      omega
    · omega
theorem gapOf_le (ns : List Int) (l : Nat) : gapOf ns l ≤ ns.length - l := by
  unfold gapOf
  cases e : gaps ns l with
  | nil => exact Nat.le_refl _
  | cons m ms =>
    have hm : m ∈ gaps ns l := by rw [e]; exact List.mem_cons_self
    have := List.mem_range.mp (List.mem_filter.mp hm).1
    show m ≤ _
    omega
end D

set_option Elab.async false
set_option linter.all false
set_option maxRecDepth 100000
set_option maxHeartbeats 1000000
set_option autoImplicit false
/-! Dl8: sorting, sets, sums as rules; defs that change a row. -/
namespace D
open PySem PySem.Spec PyProof.Rows L2
/-! ### sorted lists are alone -/
theorem perm_one {α : Type} {le : α → α → Prop} (anti : ∀ a b, le a b → le b a → a = b) : ∀ {l m : List α}, l.Perm m → l.Pairwise le → m.Pairwise le → l = m
  | [], m, h, _, _ => (List.Perm.nil_eq h)
  | a :: l, [], h, _, _ => absurd h.length_eq (by simp)
  | a :: l, c :: m, h, h1, h2 => by
    have p1 := List.pairwise_cons.mp h1
    have p2 := List.pairwise_cons.mp h2
    have e : a = c := by
      rcases List.mem_cons.mp (h.mem_iff.mp List.mem_cons_self) with z | z
      · exact z
      · rcases List.mem_cons.mp (h.mem_iff.mpr List.mem_cons_self) with y | y
        · exact y.symm
        · exact anti a c (p1.1 c y) (p2.1 a z)
    subst e
    rw [perm_one anti ((List.perm_cons a).mp h) p1.2 p2.2]
/-- the ints, ascending -/
def sortI (ns : List Int) : List Int := ns.mergeSort fun x y => decide (x ≤ y)
theorem sortI_perm (ns : List Int) : (sortI ns).Perm ns := List.mergeSort_perm _ _
theorem sortI_up (ns : List Int) : (sortI ns).Pairwise (· ≤ ·) := by
  have h := List.pairwise_mergeSort (le := fun x y : Int => decide (x ≤ y)) (fun a b c h1 h2 => by have := of_decide_eq_true h1; have := of_decide_eq_true h2; exact decide_eq_true (by omega)) (fun a b => by
    rw [Bool.or_eq_true]
    rcases Int.le_total a b with h | h
    · exact .inl (decide_eq_true h)
    · exact .inr (decide_eq_true h)) ns
  exact h.imp fun h => of_decide_eq_true h
theorem sortI_one {ns ms : List Int} (h1 : ms.Perm ns) (h2 : ms.Pairwise (· ≤ ·)) : ms = sortI ns :=
  perm_one (fun a b h1 h2 => Int.le_antisymm h1 h2) (h1.trans (sortI_perm ns).symm) h2 (sortI_up ns)
/-- each once -/
def onceI : List Int → List Int
  | [] => []
  | x :: l => if x ∈ l then onceI l else x :: onceI l
theorem onceI_mem {x : Int} : ∀ {l : List Int}, x ∈ onceI l ↔ x ∈ l
  | [] => Iff.rfl
  | y :: l => by
    unfold onceI
    split
    · rename_i h
      rw [onceI_mem]
      constructor
      · exact fun z => List.mem_cons_of_mem _ z
      · intro z
        rcases List.mem_cons.mp z with z | z
        · rw [z]; exact h
        · exact z
    · rw [List.mem_cons, List.mem_cons, onceI_mem]
theorem onceI_nodup : ∀ l : List Int, (onceI l).Nodup
  | [] => List.nodup_nil
  | y :: l => by
    unfold onceI
    split
    · exact onceI_nodup l
    · rename_i h
      exact List.nodup_cons.mpr ⟨fun z => h (onceI_mem.mp z), onceI_nodup l⟩
theorem onceI_len : ∀ l : List Int, (onceI l).length ≤ l.length
  | [] => Nat.le_refl _
  | y :: l => by
    unfold onceI
    have := onceI_len l
    split
    · exact Nat.le_succ_of_le this
    · exact Nat.succ_le_succ this
/-- the ints, ascending, each once -/
def setI (ns : List Int) : List Int := sortI (onceI ns)
theorem setI_mem {ns : List Int} {x : Int} : x ∈ setI ns ↔ x ∈ ns := by
  unfold setI
  rw [(sortI_perm _).mem_iff, onceI_mem]
theorem setI_lt (ns : List Int) : (setI ns).Pairwise (· < ·) := by
  have h1 := sortI_up (onceI ns)
  have h2 : (setI ns).Nodup := (sortI_perm _).nodup_iff.mpr (onceI_nodup ns)
  exact (h1.and h2).imp fun ⟨a, c⟩ => by omega
theorem setI_one {ns ms : List Int} (h1 : ∀ k, k ∈ ms ↔ k ∈ ns) (h2 : ms.Pairwise (· < ·)) : ms = setI ns := by
  have anti : ∀ a b : Int, a < b → b < a → a = b := fun a b h1 h2 => by omega
  have nd1 : ms.Nodup := h2.imp fun h => by omega
  have nd2 : (setI ns).Nodup := (setI_lt ns).imp fun h => by omega
  have p : ms.Perm (setI ns) := (List.perm_ext_iff_of_nodup nd1 nd2).mpr fun k => by rw [h1, setI_mem]
  exact perm_one anti p h2 (setI_lt ns)
theorem setI_len (ns : List Int) : (setI ns).length ≤ ns.length := by
  unfold setI
  rw [(sortI_perm _).length_eq]
  exact onceI_len ns
theorem lex_anti : ∀ a b : List Int, HT.lexLt b a = false → HT.lexLt a b = false → a = b
  | [], [], _, _ => rfl
  | [], y :: t, _, h => by simp [HT.lexLt] at h
  | x :: r, [], h, _ => by simp [HT.lexLt] at h
  | x :: r, y :: t, h1, h2 => by
    rw [HT.lexLt_cons] at h1 h2
    by_cases e : x = y
    · subst e
      rw [if_pos rfl] at h1 h2
      rw [lex_anti r t h1 h2]
    · rw [if_neg (fun z => e z.symm)] at h1
      rw [if_neg e] at h2
      have := of_decide_eq_false h1
      have := of_decide_eq_false h2
      omega
section
variable {X : Cx} {tb : Tbs} {b : Bx tb} {S S1 S2 S3 : List Sl} {e f g : Expr} {es : List Expr} {r r' : Rs} {d d' : PyData} {xs ys : List PyData} {pos p p2 p3 : Pos} {c c' : Bool} {n m i j : Int} {ns ms : List Int}
theorem E_sortedL (hm : X.mg "sorted" = none) (ha : E X b S e (.val (dL ns)) S1) (h64 : ns.length < 64) (hg : Gl X "sorted" := by rfl) (he : starEach [e] X.env = (false, eval e X.env) :: starEach [] X.env := by rfl) (hpl : (backTo pos (starEach [] X.env)).any (·.1) = false := by rfl) : E X b S (.Call (.Name "sorted" p) [e] [] pos) (.new ((sortI ns).map .int)) S1 :=
  E_cb (pe_callB cr_sorted hg hm bb_sorted (A_cons ha A_nil he) (by decide) (by decide) he hpl) fun G H σ vs Q st r q => by
    cases r with
    | cons r1 rn =>
      cases rn
      cases r1 with
      | lst h1 t =>
        rw [t.ints] at h1
        refine ⟨_, ns, rfl, .inl (st.sub.rd h1), h64, fun ms p h2 h3 hp => ?_⟩
        rw [sortI_one h2 h3]
        have z := st.newL hp (RpA.ofInts (K := X.K) (G := G) (sortI ns))
        exact q _ _ _ z.1 (Ex.refl G) z.2
/-- sorted of an own list of ints -/
theorem E_sortedO (i : Nat) {x : Str} {l : Bool} {px : Pos} (hm : X.mg "sorted" = none) (hs : S[i]? = some (.own l (ns.map .int))) (h : PE X (.Name x px) (tVar i)) (h64 : ns.length < 64) (hg : Gl X "sorted" := by rfl) (he : starEach [.Name x px] X.env = (false, eval (.Name x px) X.env) :: starEach [] X.env := by rfl) (hpl : (backTo pos (starEach [] X.env)).any (·.1) = false := by rfl) :
    E X b S (.Call (.Name "sorted" p) [.Name x px] [] pos) (.new ((sortI ns).map .int)) S :=
  PE.w (pe_callB cr_sorted hg hm bb_sorted (pa_cons h pa_nil he) (by decide) (by decide) he hpl) fun σ H Q ⟨G, st, q⟩ => by
    obtain ⟨a, vs, h1, ap, h2, r⟩ := st.slotO hs
    rw [r.ints] at h2
    refine ⟨_, h1, _, ns, rfl, .inl (.inl h2), h64, fun ms p h3 h4 hp => ?_⟩
    rw [sortI_one h3 h4]
    have z := st.newL hp (RpA.ofInts (K := X.K) (G := G) (sortI ns))
    exact q _ _ _ z.1 (Ex.refl G) z.2
theorem E_sortedT (hm : X.mg "sorted" = none) (ha : E X b S e (.val (dT ns)) S1) (hg : Gl X "sorted" := by rfl) (he : starEach [e] X.env = (false, eval e X.env) :: starEach [] X.env := by rfl) (hpl : (backTo pos (starEach [] X.env)).any (·.1) = false := by rfl) : E X b S (.Call (.Name "sorted" p) [e] [] pos) (.new ((sortI ns).map .int)) S1 :=
  E_cb (pe_callB cr_sortedTI hg hm bb_sorted (A_cons ha A_nil he) (by decide) (by decide) he hpl) fun G H σ vs Q st r q => by
    cases r with
    | cons r1 rn =>
      cases rn
      cases r1 with
      | tup h1 t =>
        rw [t.ints] at h1
        refine ⟨_, ns, rfl, st.sub.sqT h1, fun ms p h2 h3 hp => ?_⟩
        rw [sortI_one h2 h3]
        have z := st.newL hp (RpA.ofInts (K := X.K) (G := G) (sortI ns))
        exact q _ _ _ z.1 (Ex.refl G) z.2
theorem E_sumT (hc : X.calm = true) (hm : X.mg "sum" = none) (ha : E X b S e (.val (dT ns)) S1) (h1 : ∀ k, k ≤ ns.length → InLong ((ns.take k).sum)) (h2 : ∀ n ∈ ns, InLong n) (hg : Gl X "sum" := by rfl) (he : starEach [e] X.env = (false, eval e X.env) :: starEach [] X.env := by rfl) (hpl : (backTo pos (starEach [] X.env)).any (·.1) = false := by rfl) : E X b S (.Call (.Name "sum" p) [e] [] pos) (.val (.int ns.sum)) S1 :=
  E_cb (pe_callB (cr_sumT hc) hg hm bb_sum (A_cons ha A_nil he) (by decide) (by decide) he hpl) fun G H σ vs Q st r q => by
    cases r with
    | cons r1 rn =>
      cases rn
      cases r1 with
      | tup h3 t =>
        rw [t.ints] at h3
        exact ⟨_, ns, rfl, st.sub.sqT h3, h1, h2, q _ G H st (Ex.refl G) (.int _)⟩
theorem rpa_tups {K : PySem.W.Frag} {G : Hp} : ∀ {ts : List (List Int)} {vs : List V}, RpA K G vs (ts.map dT) → Paired (fun v t => Rp K G v (dT t)) vs ts
  | [], _, h => by cases h; exact .nil
  | t :: ts, _, h => by
    cases h with
    | cons h r => exact .cons h (rpa_tups r)
theorem tups_rpa {K : PySem.W.Frag} {G : Hp} : ∀ {ts : List (List Int)} {vs : List V}, Paired (fun v t => Rp K G v (dT t)) vs ts → RpA K G vs (ts.map dT)
  | _, _, .nil => .nil
  | _, _, .cons h r => .cons h (tups_rpa r)
/-- sorted of tuples of ints: us is what is handed back -/
theorem E_sortedLT {ts us : List (List Int)} (hm : X.mg "sorted" = none) (ha : E X b S e (.val (dLT ts)) S1) (hne : ts.length < 2 ∨ ∀ t ∈ ts, t ≠ []) (h1 : us.Perm ts) (h2 : us.Pairwise (fun x y => HT.lexLt y x = false)) (hg : Gl X "sorted" := by rfl) (he : starEach [e] X.env = (false, eval e X.env) :: starEach [] X.env := by rfl) (hpl : (backTo pos (starEach [] X.env)).any (·.1) = false := by rfl) : E X b S (.Call (.Name "sorted" p) [e] [] pos) (.new (us.map dT)) S1 :=
  E_cb (pe_callB cr_sortedLT hg hm bb_sorted (A_cons ha A_nil he) (by decide) (by decide) he hpl) fun G H σ vs Q st r q => by
    cases r with
    | cons r1 rn =>
      cases rn
      cases r1 with
      | @lst a ws _ h3 t =>
        refine ⟨_, ws, ts, fun v t => Rp X.K G v (dT t), rfl, .inl (st.sub.rd h3), rpa_tups t, fun v t rv => ?_, by rw [t.length, List.length_map]; exact hne, fun ys vs p hP h4 h5 hp => ?_⟩
        · cases rv with
          | tup h6 a6 => rw [a6.ints] at h6; exact ⟨_, rfl, st.sub.sqT h6⟩
        · have e : vs = us := perm_one (fun x y z1 z2 => lex_anti x y z1 z2) (h4.trans h1.symm) h5 h2
          subst e
          have z := st.newL hp (tups_rpa hP)
          exact q _ _ _ z.1 (Ex.refl G) z.2
/-- sorted(set(e)) -/
theorem E_sortedSet (hc : X.calm = true) (hm : X.mg "sorted" = none) (hm2 : X.mg "set" = none) (ha : E X b S e (.val (dL ns)) S1) (hz : ns.length ≤ 4000) (hg : Gl X "sorted" := by rfl) (hg2 : Gl X "set" := by rfl)
    (he : starEach [e] X.env = (false, eval e X.env) :: starEach [] X.env := by rfl) (hpl : (backTo pos (starEach [] X.env)).any (·.1) = false := by rfl) (hpl2 : (backTo p3 (starEach [] X.env)).any (·.1) = false := by rfl)
    (he2 : starEach [.Call (.Name "set" p2) [e] [] p3] X.env = (false, eval (.Call (.Name "set" p2) [e] [] p3) X.env) :: starEach [] X.env := by rfl) :
    E X b S (.Call (.Name "sorted" p) [.Call (.Name "set" p2) [e] [] p3] [] pos) (.new ((setI ns).map .int)) S1 :=
  PE.w (pe_callB (cr_sortSet hc) hg hm bb_sorted (pa_cons (pe_callTy (cr_setL hc) hg2 hm2 bb_set (A_cons ha A_nil he) (by decide) (by decide) he hpl2) pa_nil he2) (by decide) (by decide) he2 hpl) fun σ H Q ⟨G, st, q⟩ => ⟨G, st, fun vs G2 H2 st2 x2 r => by
    cases r with
    | cons r1 rn =>
      cases rn
      cases r1 with
      | lst h1 t =>
        rw [t.ints] at h1
        refine ⟨_, ns, rfl, .inl (st2.sub.rd h1), hz, fun p c hcn hp => ?_⟩
        have st3 := st2.poke (o := SetO X.w p (fun j => decide (j ∈ ns)) c) (st2.sub.dom hp) (st2.base.dom hp) fun i q w => st2.ownNe hp w
        refine ⟨p, _, c, rfl, upd_same, by omega, fun ms p' h3 h4 hp' => ?_⟩
        rw [setI_one (fun k => (h4 k).trans decide_eq_true_iff) h3]
        have z := st3.newL hp' (RpA.ofInts (K := X.K) (G := G2) (setI ns))
        exact q _ _ _ z.1 x2 z.2⟩
theorem E_lenT (hm : X.mg "len" = none) (ha : E X b S e (.val (dT ns)) S1) (hg : Gl X "len" := by rfl) (he : starEach [e] X.env = (false, eval e X.env) :: starEach [] X.env := by rfl) (hpl : (backTo pos (starEach [] X.env)).any (·.1) = false := by rfl) : E X b S (.Call (.Name "len" p) [e] [] pos) (.val (.int (ns.length : Int))) S1 :=
  E_to (E_len hm ha rfl hg he hpl) (by rw [List.length_map])
theorem E_lenL (hm : X.mg "len" = none) (ha : E X b S e (.val (dL ns)) S1) (hg : Gl X "len" := by rfl) (he : starEach [e] X.env = (false, eval e X.env) :: starEach [] X.env := by rfl) (hpl : (backTo pos (starEach [] X.env)).any (·.1) = false := by rfl) : E X b S (.Call (.Name "len" p) [e] [] pos) (.val (.int (ns.length : Int))) S1 :=
  E_to (E_len hm ha rfl hg he hpl) (by rw [List.length_map])
/-- range(k) -/
theorem I_rangeN {k : Nat} {tg : Expr} (hm : X.mg "range" = none) (ha : E X b S e (.val (.int n)) S1) (hn : n = (k : Int)) (hk : k < 2 ^ 62) (hg : Gl X "range" := by rfl) (hs : starEach [e] X.env = [(false, eval e X.env)] := by rfl) :
    IT X b S tg (.Call (.Name "range" p) [e] [] pos) ((List.range k).map fun (i : Nat) => PyData.int (i : Int)) NoC S1 := by
  subst hn
  have := I_range1 (tg := tg) (p := p) (pos := pos) hm ha (by omega) (by omega) hg hs
  rw [Int.toNat_natCast] at this
  exact this
/-- range(m, m + k) -/
theorem I_rangeF {k : Nat} {tg : Expr} (hm : X.mg "range" = none) (ha : E X b S e (.val (.int m)) S1) (hb : E X b S1 f (.val (.int n)) S2) (hn : n = m + (k : Int)) (hm1 : -(2 ^ 61) ≤ m ∧ m < 2 ^ 61) (hk : k < 2 ^ 61) (hg : Gl X "range" := by rfl) (hs : starEach [e, f] X.env = [(false, eval e X.env), (false, eval f X.env)] := by rfl) (hs2 : starEach [f] X.env = [(false, eval f X.env)] := by rfl) :
    IT X b S tg (.Call (.Name "range" p) [e, f] [] pos) ((List.range k).map fun (i : Nat) => PyData.int (m + (i : Int))) NoC S2 := by
  have := I_range2 (tg := tg) (p := p) (pos := pos) hm ha hb (by omega) (by omega) hg hs hs2
  rw [show (n - m).toNat = k by omega] at this
  exact this
theorem range_at {k i x : Nat} (h : (List.range k)[i]? = some x) : i < k ∧ x = i := by
  by_cases c : i < k
  · rw [List.getElem?_range c] at h; cases h; exact ⟨c, rfl⟩
  · rw [List.getElem?_eq_none (by simpa using c)] at h; cases h
end
/-! ### defs that change a row -/
theorem st_startS {K : PySem.W.Frag} {tb : Tbs} {W : WX} {G H : Hp} {N : List Str} {p : Addr} {s0 : Sl} {vs : List V} {ds : List PyData} (x : Ex G H) (ht : ∀ q ∈ tb, TabX G H q) (r : RpA K G vs ds) (gp : G p = none) (hs0 : s0.owned = true) (hl0 : s0.loc = false) (rr : OwnAt K G H p s0) :
    StOk K (⟨fun c => if c = p then none else H c, G, H, W⟩ : Bx tb) G H (L2.start N (.ref p :: vs)) (slots0 N (s0 :: ds.map Sl.val)) where
  sub := x
  base := fun a o h => by
    have h' : (if a = p then none else H a) = some o := h
    by_cases c : a = p
    · rw [if_pos c] at h'; cases h'
    · rw [if_neg c] at h'; rw [h']; exact kp_refl o
  g0 := Ex.refl G
  nw := fun _ h => h
  gn := fun a h => .inl h
  tabs := ht
  len := by unfold L2.start slots0; simp [r.length]
  at_ := fun i s h => by
    unfold slots0 at h
    unfold L2.start
    cases i with
    | zero =>
      simp only [List.cons_append, List.getElem?_cons_zero, Option.some.injEq] at h
      subst h
      exact ⟨_, rfl, SlOk.of_own hs0 rfl ⟨if_pos rfl, gp, (fun z => by rw [hl0] at z; cases z), fun _ z => rr.some z⟩ rr⟩
    | succ i =>
      rw [List.cons_append, List.getElem?_cons_succ] at h
      show ∃ o, (some (V.ref p) :: (vs.map some) ++ _)[i + 1]? = some o ∧ _
      rw [List.cons_append, List.getElem?_cons_succ]
      by_cases c : i < (ds.map Sl.val).length
      · rw [List.getElem?_append_left c] at h
        obtain ⟨o, h1, h2⟩ := rp_slots (b := (⟨fun c => if c = p then none else H c, G, H, W⟩ : Bx tb)) (H := H) (N := N) r i s h
        exact ⟨o, by rw [List.getElem?_append_left (by simpa [r.length] using c)]; exact h1, h2⟩
      · rw [List.getElem?_append_right (by omega), List.getElem?_replicate] at h
        split at h
        · cases h
          refine ⟨none, ?_, trivial⟩
          rw [List.getElem?_append_right (by simp [r.length]; simpa using c), List.getElem?_replicate]
          rename_i hh
          simp only [List.length_map, List.length_cons] at hh ⊢
          rw [r.length, if_pos hh]
        · cases h
  sep := fun i j q w1 w2 => by
    have key : ∀ i, Owns (L2.start N (.ref p :: vs)) (slots0 N (s0 :: ds.map Sl.val)) i q → i = 0 := fun i w => by
      cases i with
      | zero => rfl
      | succ i =>
        exfalso
        obtain ⟨⟨s, e, hs⟩, _⟩ := w
        have : s.owned = false := by
          unfold slots0 at e
          rw [List.cons_append, List.getElem?_cons_succ] at e
          by_cases c : i < (ds.map Sl.val).length
          · rw [List.getElem?_append_left c, List.getElem?_map] at e
            cases q : ds[i]? with
            | none => rw [q] at e; cases e
            | some d => rw [q] at e; cases e; rfl
          · rw [List.getElem?_append_right (by omega), List.getElem?_replicate] at e
            split at e
            · cases e; rfl
            · cases e
        rw [this] at hs; cases hs
    rw [key i w1, key j w2]
theorem st_startR {K : PySem.W.Frag} {tb : Tbs} {W : WX} {G H : Hp} {N : List Str} {p : Addr} {rs : List V} {xs : List PyData} {vs : List V} {ds : List PyData} (x : Ex G H) (ht : ∀ q ∈ tb, TabX G H q) (r : RpA K G vs ds) (hp : H p = some (.lst rs)) (gp : G p = none) (rr : RpA K G rs xs) :
    StOk K (⟨fun c => if c = p then none else H c, G, H, W⟩ : Bx tb) G H (L2.start N (.ref p :: vs)) (slots0 N (.own false xs :: ds.map Sl.val)) :=
  st_startS x ht r gp rfl rfl ⟨rs, hp, rr⟩
/-- what a body is to show: it hands back d and leaves the row xs -/
def poR (d : PyData) (xs : List PyData) : Po := { nx := fun S => d = .none ∧ S[0]? = some (.own false xs), rt := fun d' S => d' = d ∧ S[0]? = some (.own false xs) }
theorem fd_mkR {P : Program} {w : World} {K : PySem.W.Frag} {tb : Tbs} {mg : Str → Option Value} {base : Heap} {x qual : Str} {st : Stmt} {f : Addr} {fd : FuncData} {N ps : List Str} {k : Nat} {pre : List PyData → List PyData → PyData → List PyData → Prop} (F : Fun K x qual st f fd) (S : FnScope N ps (defScope st)) (hm : mg x = some (.ref f))
    (hb : ∀ (kV doc pm : Value) (an : Option Addr) (cdv ct : Value) (us : List Value), us.length = ps.length → bindArgs (PySem.W.fnOf x qual (defArgs st) (defBody st) (defScope st) .none kV doc pm an cdv ct) ⟨us, []⟩ = pure (ps.zip us))
    (len : ∀ xs ds d xs', pre xs ds d xs' → ds.length + 1 = ps.length)
    (body : ∀ (cdv : Value) (A : Around) (outer : List Env) (s : Shared) (H : Hp) (E : XK) (b : Bx tb) (xs ds : List PyData) (d : PyData) (xs' : List PyData), Room k (A.deeper (envOfC qual (defScope st) s.heap.objs.size f cdv)) → pre xs ds d xs' →
      SS (cxOf CX0 P w K mg base N qual (defScope st) f cdv A outer s H E).nox b (slots0 N (.own false xs :: ds.map Sl.val)) (defBody st) (poR d xs')) : Fd P w K mg base (k + 1) x ps (spR K tb pre) := by
  refine ⟨f, fd, F.ok S (fun vs H Q E h => ?_) (fun cdv A outer s H vs Q E hr h => ?_), hm, F.kp, F.binds hb⟩
  · obtain ⟨G, p, rs, ws, xs, ds, d, xs', hp, _, rfl, _, _, _, _, r, _⟩ := h
    show ws.length + 1 = _
    rw [r.length]; exact len xs ds d xs' hp
  · obtain ⟨G, p, rs, ws, xs, ds, d, xs', hp, ht, rfl, x, hH, rr, gp, r, q⟩ := h
    have fin : ∀ v G2 H2 σ2 S2, StOk K (⟨fun c => if c = p then none else H c, G, H, W0⟩ : Bx tb) G2 H2 σ2 S2 → Rp K G2 v d → S2[0]? = some (.own false xs') → Q v H2 := fun v G2 H2 σ2 S2 st2 rv h0 => by
      obtain ⟨a, vs, h1, ap, h2, rv2⟩ := st2.slotO h0
      have ea : a = p := by
        by_cases c : a = p
        · exact c
        · have z : (if a = p then none else H a) = none := ap.hb
          rw [if_neg c] at z
          exact absurd z (ap.h1 rfl)
      subst ea
      refine q v G2 H2 vs st2.tabs st2.g0 st2.gn st2.sub (fun c o hc e => ?_) st2.nw ap.hg h2 rv2 rv
      exact st2.base c o (show (if c = a then none else H c) = some o by rw [if_neg hc]; exact e)
    refine ⟨_, body cdv A outer s H E ⟨fun c => if c = p then none else H c, G, H, W0⟩ xs ds d xs' hr hp, G, st_startR x ht r hH gp rr, ?_, ?_, ?_, ?_, ?_⟩
    · intro G2 H2 σ2 S2 st2 x2 hd
      obtain ⟨hd, h0⟩ : d = .none ∧ S2[0]? = some (Sl.own false xs') := hd
      subst hd
      exact fin .non G2 H2 σ2 S2 st2 .non h0
    · intro v G2 H2 σ2 S2 d2 st2 x2 rv hd
      obtain ⟨hd, h0⟩ : d2 = d ∧ S2[0]? = some (Sl.own false xs') := hd
      subst hd
      exact fin v G2 H2 σ2 S2 st2 rv h0
    · exact fun _ _ _ _ _ _ z => z.elim
    · exact fun _ _ _ _ _ _ z => z.elim
    · exact fun _ _ _ _ _ _ _ _ _ _ z => z.elim
end D

set_option Elab.async false
set_option linter.all false
set_option autoImplicit false
/-! the law's text, by places -/
namespace Q
open PySem
abbrev topS (i : Nat) : Stmt := PySem.Challenge.pw_lostweights_k61_whole_tales.main.body.getD i (.Pass ⟨0, 0, 0, 0⟩)
end Q

set_option Elab.async false
set_option linter.all false
set_option maxRecDepth 100000
set_option maxHeartbeats 1000000
set_option autoImplicit false
/-! the text, by places -/
namespace Q
open PySem PySem.Spec PyProof.Rows L2 D
/-- the module's constants -/
structure Ct (mg : Str → Option Value) : Prop where
  MOST_WEIGHTS : ∃ t, mg "MOST_WEIGHTS" = some (.int 10 t)
  MOST_WEIGHT : ∃ t, mg "MOST_WEIGHT" = some (.int 1000 t)
section
variable {P : Program} {w : World} {K : PySem.W.Frag} {tb : Tbs} {mg : Str → Option Value} {base : Heap} {f : Addr} {fd : FuncData}

/-! is_number: 0 value, 1 low, 2 high -/
abbrev s_is_number : Stmt := topS 11
theorem sc_is_number : FnScope ["value", "low", "high"] ["value", "low", "high"] (defScope s_is_number) := ⟨rfl, rfl, rfl, by decide +kernel, rfl, by decide +kernel, by decide +kernel⟩
def preNum (ds : List PyData) (d : PyData) : Prop := ∃ v lo hi, ds = [v, .int lo, .int hi] ∧ d = .bool (numD v lo hi)
theorem ok_is_number (F : Fun K "is_number" "is_number" s_is_number f fd) (hm : mg "is_number" = some (.ref f)) (B : Bt mg) : Fd P w K mg base 1 "is_number" ["value", "low", "high"] (spV K tb preNum) := by
  refine fd_mk F sc_is_number hm (fun _ _ _ _ _ _ us hl => match us, hl with | [_, _, _], _ => rfl) (fun ds d ⟨_, _, _, h, _⟩ => by rw [h]; rfl) fun cdv A outer s H E b ds d hr hp => ?_
  obtain ⟨v, lo, hi, rfl, rfl⟩ := hp
  cases v with
  | int n =>
    exact B_ret (E_and (E_isi B.isinstance B.int (E_name 0 rfl (pv 0)) bb_int rfl) (fun _ => (E_and (E_not (E_isi B.isinstance B.bool (E_name 0 rfl (pv 0)) bb_bool rfl)) (fun _ => (E_one (E_lele (E_name 1 rfl (pv 1)) (E_name 0 rfl (pv 0)) (fun _ => (E_name 2 rfl (pv 2))))))))) rfl
  | bool k => exact B_ret (E_and (E_isi B.isinstance B.int (E_name 0 rfl (pv 0)) bb_int rfl) (fun _ => (E_and (c2 := false) (E_not (E_isi B.isinstance B.bool (E_name 0 rfl (pv 0)) bb_bool rfl)) (fun h => by cases h)))) rfl
  | dict kvs =>
    have e : isD (.dict kvs) "int" = false := by
      unfold isD tyD
      split <;> first | rfl | (rename_i z; cases z)
    exact B_ret (E_to (E_and (c2 := false) (E_isi B.isinstance B.int (E_name 0 rfl (pv 0)) bb_int rfl) (fun h => by rw [e] at h; cases h)) (by rw [e]; rfl)) rfl
  | _ => exact B_ret (E_and (c2 := false) (E_isi B.isinstance B.int (E_name 0 rfl (pv 0)) bb_int rfl) (fun h => by cases h)) rfl

/-! need_number: 0 value, 1 low, 2 high -/
abbrev s_need_number : Stmt := topS 12
theorem sc_need_number : FnScope ["value", "low", "high"] ["value", "low", "high"] (defScope s_need_number) := ⟨rfl, rfl, rfl, by decide +kernel, rfl, by decide +kernel, by decide +kernel⟩
def preNeedNum (ds : List PyData) (d : PyData) : Prop := ∃ v lo hi, ds = [v, .int lo, .int hi] ∧ numD v lo hi = true ∧ d = .none
theorem ok_need_number (F : Fun K "need_number" "need_number" s_need_number f fd) (hm : mg "need_number" = some (.ref f)) (B : Bt mg) (F_is_number : Fd P w K mg base 1 "is_number" ["value", "low", "high"] (spV K tb preNum)) : Fd P w K mg base 2 "need_number" ["value", "low", "high"] (spV K tb preNeedNum) := by
  refine fd_mk F sc_need_number hm (fun _ _ _ _ _ _ us hl => match us, hl with | [_, _, _], _ => rfl) (fun ds d ⟨_, _, _, h, _⟩ => by rw [h]; rfl) fun cdv A outer s H E b ds d hr hp => ?_
  obtain ⟨v, lo, hi, rfl, hv, rfl⟩ := hp
  refine B_ifR (T_not (T_val (E_call F_is_number hr rfl (A_cons (E_name 0 rfl (pv 0)) (A_cons (E_name 1 rfl (pv 1)) (A_cons (E_name 2 rfl (pv 2)) A_nil))) ⟨_, _, _, rfl, rfl⟩))) (fun hc => ?_) (fun hc => ?_)
  · rw [hv] at hc; cases hc
  · exact B_nil rfl

/-! light_sums: 0 box, 1 found, 2 weight -/
abbrev s_light_sums : Stmt := topS 14
theorem sc_light_sums : FnScope ["box", "found", "weight"] ["box"] (defScope s_light_sums) := ⟨rfl, rfl, rfl, by decide +kernel, rfl, by decide +kernel, by decide +kernel⟩
def preLight (ds : List PyData) (d : PyData) : Prop := ∃ ns : List Int, ds = [dT ns] ∧ ns.length ≤ 1000 ∧ d = dL (lightSums ns)
theorem light_step {ns : List Int} {i : Nat} {x : Int} (h : ns[i]? = some x) : lightSums (ns.take (i + 1)) = lightSums (ns.take i) ++ [(lightSums (ns.take i)).getLast (by simp [lightSums]) + x] := by
  have hi := (List.getElem?_eq_some_iff.mp h).1
  have e : ∀ k, k ≤ ns.length → lightSums (ns.take k) = (List.range (k + 1)).map fun i => (ns.take i).sum := fun k hk => by
    unfold lightSums
    rw [List.length_take, Nat.min_eq_left hk]
    refine List.map_congr_left fun j hj => ?_
    rw [List.take_take, Nat.min_eq_left (by have := List.mem_range.mp hj; omega)]
  have e1 := e (i + 1) hi
  have e2 := e i (by omega)
  have last : (lightSums (ns.take i)).getLast (by simp [lightSums]) = (ns.take i).sum := by
    simp [e2]
  rw [last, e1, e2, List.range_succ, List.map_append]
  simp [take_succ' h]
theorem ok_light_sums (F : Fun K "light_sums" "light_sums" s_light_sums f fd) (hm : mg "light_sums" = some (.ref f)) (B : Bt mg) : Fd P w K mg base 1 "light_sums" ["box"] (spV K tb preLight) := by
  refine fd_mk F sc_light_sums hm (fun _ _ _ _ _ _ us hl => match us, hl with | [_], _ => rfl) (fun ds d ⟨_, h, _⟩ => by rw [h]; rfl) fun cdv A outer s H E b ds d hr hp => ?_
  obtain ⟨ns, rfl, hz, rfl⟩ := hp
  refine B_own 1 (E_lstD (A_cons E_int A_nil)) sc_light_sums.nd rfl (Or.inl rfl) ?_
  refine B_then (Mid := fun S' => ∃ v, S' = [.val (dT ns), .own true ((lightSums ns).map .int), v]) (B_for (F := fun x S => S.set 2 (.val (.int x))) (fun i S' => ∃ v, S' = [.val (dT ns), .own true ((lightSums (ns.take i)).map .int), v]) PassesOwn.never rfl (I_tup (E_name 0 rfl (pv 0))) (pg_name (i := 2) sc_light_sums.nd rfl (Or.inl rfl)) (fun x hx => g_name) ⟨_, rfl⟩ (fun i x S' hx hI => ?_) (fun S' h => by rw [List.take_length] at h; exact h)) (fun S' h => ?_)
  · obtain ⟨v, rfl⟩ := hI
    refine B_app 1 rfl (pv 1) (E_add (E_ixO 1 rfl (pv 1) E_neg (atI_map PyData.int (atI_last (by simp [lightSums])))) (E_name 2 rfl (pv 2))) rfl (sz_lt ?_) ?_
    · simp [lightSums]; omega
    · refine B_nil ⟨.val (.int x), ?_⟩
      show [_, _, _] = _
      rw [light_step hx, List.map_append]
      rfl
  · obtain ⟨v, rfl⟩ := h
    exact B_ret (E_take 1 rfl (pv 1)) rfl

/-! need_box: 0 value, 1 index, 2 weight -/
abbrev s_need_box : Stmt := topS 13
theorem sc_need_box : FnScope ["value", "index", "weight"] ["value"] (defScope s_need_box) := ⟨rfl, rfl, rfl, by decide +kernel, rfl, by decide +kernel, by decide +kernel⟩
def preNeedBox (ds : List PyData) (d : PyData) : Prop := ∃ ns : List Int, ds = [dT ns] ∧ IsBox ns ∧ d = .none
theorem enum_ints (ns : List Int) : (ns.map PyData.int).zipIdx.map (fun q => PyData.tuple [.int (q.2 : Int), q.1]) = ns.zipIdx.map fun q => PyData.tuple [.int (q.2 : Int), .int q.1] := by
  rw [List.zipIdx_map, List.map_map]
  rfl
theorem ok_need_box (F : Fun K "need_box" "need_box" s_need_box f fd) (hm : mg "need_box" = some (.ref f)) (B : Bt mg) (C : Ct mg) (F_is_number : Fd P w K mg base 1 "is_number" ["value", "low", "high"] (spV K tb preNum)) : Fd P w K mg base 2 "need_box" ["value"] (spV K tb preNeedBox) := by
  refine fd_mk F sc_need_box hm (fun _ _ _ _ _ _ us hl => match us, hl with | [_], _ => rfl) (fun ds d ⟨_, h, _⟩ => by rw [h]; rfl) fun cdv A outer s H E b ds d hr hp => ?_
  obtain ⟨ns, rfl, hb, rfl⟩ := hp
  have h1 := hb.lo
  have h2 := hb.hi
  refine B_ifR (W.t (W_or (T_not (T_val (E_isi B.isinstance B.tuple (E_name 0 rfl (pv 0)) bb_tuple rfl))) (fun _ => (W_or1 (T_not (T_lele E_int (E_len B.len (E_name 0 rfl (pv 0)) rfl) (fun _ => (E_glob C.MOST_WEIGHTS)))))))) (fun hc => ?_) (fun hc => ?_)
  · exfalso
    have e : (decide ((1 : Int) ≤ ((ns.map PyData.int).length : Nat)) && decide (((ns.map PyData.int).length : Nat) ≤ (10 : Int))) = true := by
      rw [List.length_map]
      simp; omega
    rw [e] at hc
    have e2 : isD (dT ns) "tuple" = true := rfl
    rw [e2] at hc
    cases hc
  · refine B_then (Mid := fun _ => True) (B_for (xs := ns.zipIdx) (enc := fun q => PyData.tuple [.int (q.2 : Int), .int q.1]) (F := fun q S => (S.set 1 (.val (.int (q.2 : Int)))).set 2 (.val (.int q.1))) (fun i S' => ∃ v1 v2, S' = [.val (dT ns), v1, v2]) PassesOwn.never rfl (enum_ints ns ▸ I_enumT B.enumerate (E_name 0 rfl (pv 0))) (pg_tup rfl (pgs_cons (pg_name (i := 1) sc_need_box.nd rfl (Or.inl rfl)) (pgs_cons (pg_name (i := 2) sc_need_box.nd rfl (Or.inl rfl)) pgs_nil))) (fun x hx => (g_tup (g_cons g_name (g_cons g_name g_nil)))) ⟨_, _, rfl⟩ (fun i x S' hx hI => ?_) (fun S' h => trivial)) (fun S' h => ?_)
    · obtain ⟨v1, v2, rfl⟩ := hI
      obtain ⟨x, j⟩ := x
      obtain ⟨hj, hx⟩ : j = i ∧ ns[i]? = some x := by
        rw [List.getElem?_zipIdx] at hx
        cases e : ns[i]? with
        | none => rw [e] at hx; cases hx
        | some y =>
          rw [e] at hx
          simp only [Option.map_some, Option.some.injEq, Prod.mk.injEq] at hx
          exact ⟨by omega, by rw [hx.1]⟩
      subst hj
      have hmem := List.mem_of_getElem? hx
      have hp := hb.pos x hmem
      have hlt := (List.getElem?_eq_some_iff.mp hx).1
      refine B_ifR (W.t (W_or (T_not (T_val (E_call F_is_number (hr.mono (by decide)) rfl (A_cons (E_name 2 rfl (pv 2)) (A_cons E_int (A_cons (E_glob C.MOST_WEIGHT) A_nil))) ⟨_, _, _, rfl, rfl⟩))) (fun _ => (W_or1 (W.t (W_and ((T_gt (E_name 1 rfl (pv 1)) E_int)) (fun h0 => (W_and1 ((T_lt (E_name 2 rfl (pv 2)) (E_ixTi (E_name 0 rfl (pv 0)) (E_sub (E_name 1 rfl (pv 1)) E_int) (atI_getD ?_ ?_)))))))))))) (fun hc => ?_) (fun hc => ?_)
      · have := of_decide_eq_true h0; omega
      · have := of_decide_eq_true h0; omega
      · exfalso
        have e1 : numD (.int x) 1 1000 = true := by simp [numD]; omega
        rw [e1] at hc
        simp only [Bool.not_true, Bool.false_or, Bool.and_eq_true, decide_eq_true_eq] at hc
        obtain ⟨c1, c2⟩ := hc
        have e2 : ns[j - 1 + 1]? = some x := by rw [show j - 1 + 1 = j by omega]; exact hx
        have e3 : ns[j - 1]? = some (ns.getD (j - 1) 0) := by
          rw [List.getD_eq_getElem?_getD, List.getElem?_eq_getElem (by omega)] <;> rfl
        have := hb.up (j - 1) _ _ e3 e2
        rw [show ((j : Int) - 1).toNat = j - 1 by omega] at c2
        omega
      · exact B_nil ⟨_, _, rfl⟩
    · exact B_nil rfl

/-! gap_of: 0 box*, 1 lost*, 2 sums*, 3 last, 4 many -/
abbrev s_gap_of : Stmt := topS 15
theorem sc_gap_of : FnScope ["box", "lost", "sums", "last", "many"] ["box", "lost"] (defScope s_gap_of) := ⟨rfl, rfl, rfl, by decide +kernel, rfl, by decide +kernel, by decide +kernel⟩
def preGap (ds : List PyData) (d : PyData) : Prop := ∃ (ns : List Int) (l : Nat), ds = [dT ns, .int (l : Int)] ∧ ns.length ≤ 1000 ∧ l ≤ ns.length ∧ d = .int (gapOf ns l : Int)
theorem ok_gap_of (F : Fun K "gap_of" "gap_of" s_gap_of f fd) (hm : mg "gap_of" = some (.ref f)) (B : Bt mg) (F_light_sums : Fd P w K mg base 1 "light_sums" ["box"] (spV K tb preLight)) : Fd P w K mg base 2 "gap_of" ["box", "lost"] (spV K tb preGap) := by
  refine fd_mk F sc_gap_of hm (fun _ _ _ _ _ _ us hl => match us, hl with | [_, _], _ => rfl) (fun ds d ⟨_, _, h, _⟩ => by rw [h]; rfl) fun cdv A outer s H E b ds d hr hp => ?_
  obtain ⟨ns, l, rfl, hz, hl, rfl⟩ := hp
  have hlen : (ns.map PyData.int).length = ns.length := List.length_map ..
  refine B_asg (E_tupD (A_cons (E_call F_light_sums (hr.mono (by decide)) rfl (A_cons (E_name 0 rfl (pv 0)) A_nil) ⟨ns, rfl, hz, rfl⟩) (A_cons (E_sub (E_len B.len (E_name 0 rfl (pv 0)) rfl) (E_name 1 rfl (pv 1))) A_nil))) (pg_tup rfl (pgs_cons (pg_name (i := 2) sc_gap_of.nd rfl (Or.inr rfl)) (pgs_cons (pg_name (i := 3) sc_gap_of.nd rfl (Or.inl rfl)) pgs_nil))) (g_tup (g_cons g_name (g_cons g_name g_nil))) ?_
  rw [hlen]
  have hL : (((ns.length : Int) - (l : Int)).toNat) = ns.length - l := by omega
  refine B_ret (E_minL rfl B.min (E_fz (E_catLi (E_fz (E_lc (own := [("many", 4)]) (xs := List.range ((ns.length : Int) - (l : Int)).toNat) (enc := fun (m : Nat) => PyData.int (m : Int)) (F := fun m S => S.set 4 (.val (.int (m : Int)))) (fun m => decide ((ns.take m).sum + 1 < ns.getD (m + l) 0)) (fun (m : Nat) => (m : Int)) PyData.int rfl sc_gap_of.nd (I_range1 B.range (E_name 3 rfl (pv 3)) (by omega) (by omega)) (blkOk_by (N := ["box", "lost", "sums", "last", "many"]) (sc := defScope s_gap_of) (by decide +kernel)) (fun _ _ _ _ _ => (pg_name (i := 4) sc_gap_of.nd rfl (Or.inl rfl))) (fun _ x hx => g_name) (by decide)
     (fun b x hx s H C cl fp => (pts_one (T_to ((T_gt (E_ixTi (n := ns.getD (x + l) 0) (E_name 0 rfl (pv 0)) (E_add (E_name 4 rfl (pv 4)) (E_name 1 rfl (pv 1))) ?i1) (E_add (E_ixLi (n := (ns.take x).sum) (E_name 2 rfl (pv 2)) (E_name 4 rfl (pv 4)) ?i2) E_int))) rfl))) (fun b x hx hp s H C cl fp => (E_name 4 rfl (pv 4))) (fun _ _ => rfl) (sz_lt (by rw [List.length_range]; omega)) rfl)) (E_fz (E_lst1i (E_name 3 rfl (pv 3)))) ?i3)) ?i4) ?i5
  case i1 =>
    have := List.mem_range.mp hx
    have e := atI_getD (l := ns) (k := (x : Int) + (l : Int)) (by omega) (by omega)
    rw [show ((x : Int) + (l : Int)).toNat = x + l by omega] at e
    exact e
  case i2 =>
    have := List.mem_range.mp hx
    refine atI_get ?_
    unfold lightSums
    rw [List.getElem?_map, List.getElem?_range (by omega)]
    rfl
  case i3 =>
    have := List.length_filter_le (fun m => decide ((ns.take m).sum + 1 < ns.getD (m + l) 0)) (List.range ((ns.length : Int) - (l : Int)).toNat)
    rw [List.length_range] at this
    rw [List.length_map, List.length_singleton]
    omega
  case i4 => simp
  case i5 =>
    show PyData.int _ = _
    rw [hL]
    exact congrArg PyData.int (gapOf_min ns l hl)

/-! safe_of: 0 box, 1 lost -/
abbrev s_safe_of : Stmt := topS 16
theorem sc_safe_of : FnScope ["box", "lost"] ["box", "lost"] (defScope s_safe_of) := ⟨rfl, rfl, rfl, by decide +kernel, rfl, by decide +kernel, by decide +kernel⟩
def preSafeOf (ds : List PyData) (d : PyData) : Prop := ∃ (ns : List Int) (l : Nat), ds = [dT ns, .int (l : Int)] ∧ ns.length ≤ 1000 ∧ l ≤ ns.length ∧ d = .int (safeOf ns l)
theorem ok_safe_of (F : Fun K "safe_of" "safe_of" s_safe_of f fd) (hm : mg "safe_of" = some (.ref f)) (B : Bt mg) (F_light_sums : Fd P w K mg base 1 "light_sums" ["box"] (spV K tb preLight)) (F_gap_of : Fd P w K mg base 2 "gap_of" ["box", "lost"] (spV K tb preGap)) : Fd P w K mg base 3 "safe_of" ["box", "lost"] (spV K tb preSafeOf) := by
  refine fd_mk F sc_safe_of hm (fun _ _ _ _ _ _ us hl => match us, hl with | [_, _], _ => rfl) (fun ds d ⟨_, _, h, _⟩ => by rw [h]; rfl) fun cdv A outer s H E b ds d hr hp => ?_
  obtain ⟨ns, l, rfl, hz, hl, rfl⟩ := hp
  refine B_ret (E_ixLi (n := safeOf ns l) (E_call F_light_sums (hr.mono (by decide)) rfl (A_cons (E_name 0 rfl (pv 0)) A_nil) ⟨ns, rfl, hz, rfl⟩) (E_call F_gap_of hr rfl (A_cons (E_name 0 rfl (pv 0)) (A_cons (E_name 1 rfl (pv 1)) A_nil)) ⟨ns, l, rfl, hz, hl, rfl⟩) (atI_get ?_)) rfl
  have := gapOf_le ns l
  unfold lightSums
  rw [List.getElem?_map, List.getElem?_range (by omega)]
  rfl

end
end Q

set_option Elab.async false
set_option linter.all false
set_option autoImplicit false
/-! Pn: the draws of a law, as plain functions. -/
namespace D
open PySem
/-- a law's row behind its script: the count, the mixed number, a cell's rest -/
structure Dw where
  c : Int
  s : Int
  r : Int
structure RowOk (w : Dw) : Prop where
  c0 : 0 ≤ w.c
  s0 : 0 ≤ w.s
  s1 : w.s < 2147483647
abbrev rowD (sc : List Int) (w : Dw) : List PyData := [scrD sc, .int w.c, .int w.s, .int w.r]
def mix (s x : Int) : Int := (s * 48271 + x + 11) % 2147483647
def cellRest (cell many r : Int) : Int := if (10 : Int) ^ (18 : Int).toNat ≤ cell then cell / many else r
def takenV (sc : List Int) (w : Dw) (many : Int) : Int × Dw :=
  if 0 < w.r then (w.r % many, ⟨w.c, w.s, w.r / many⟩)
  else if (sc.length : Int) < w.c + 1 then ((w.s * 48271 + 11) % 2147483647 / 7 % many, ⟨w.c + 1, (w.s * 48271 + 11) % 2147483647, w.r⟩)
  else (sc.getD w.c.toNat 0 % many, ⟨w.c + 1, mix w.s (sc.getD w.c.toNat 0), cellRest (sc.getD w.c.toNat 0) many w.r⟩)
theorem takenV_ok {sc : List Int} {w : Dw} {many : Int} (h : RowOk w) (hm : 0 < many) : 0 ≤ (takenV sc w many).1 ∧ (takenV sc w many).1 < many ∧ RowOk (takenV sc w many).2 := by
  have c0 := h.c0
  have s0 := h.s0
  have s1 := h.s1
  unfold takenV
  split
  · exact ⟨Int.emod_nonneg _ (by omega), Int.emod_lt_of_pos _ hm, ⟨c0, s0, s1⟩⟩
  · split
    · exact ⟨Int.emod_nonneg _ (by omega), Int.emod_lt_of_pos _ hm, ⟨by show 0 ≤ w.c + 1; omega, Int.emod_nonneg _ (by decide), Int.emod_lt_of_pos _ (by decide)⟩⟩
    · exact ⟨Int.emod_nonneg _ (by omega), Int.emod_lt_of_pos _ hm, ⟨by show 0 ≤ w.c + 1; omega, Int.emod_nonneg _ (by decide), Int.emod_lt_of_pos _ (by decide)⟩⟩
/-- one weight more -/
def boxStep (sc : List Int) (top kind : Int) (i : Nat) (st : List Int × Dw) : List Int × Dw :=
  if kind = 0 then (st.1 ++ [1 + (takenV sc st.2 top).1], (takenV sc st.2 top).2)
  else (st.1 ++ [max 1 (min top ((cut st.1 none (some (max 0 ((i : Int) - (takenV sc st.2 kind).1)))).sum + (takenV sc (takenV sc st.2 kind).2 3).1))], (takenV sc (takenV sc st.2 kind).2 3).2)
def boxAt (sc : List Int) (top kind : Int) (w : Dw) : Nat → List Int × Dw
  | 0 => ([], w)
  | i + 1 => boxStep sc top kind i (boxAt sc top kind w i)
theorem boxAt_ok {sc : List Int} {top kind : Int} {w : Dw} (ht : 0 < top) (hk : 0 ≤ kind) (h : RowOk w) : ∀ i, (boxAt sc top kind w i).1.length = i ∧ (∀ x ∈ (boxAt sc top kind w i).1, 1 ≤ x ∧ x ≤ top) ∧ RowOk (boxAt sc top kind w i).2
  | 0 => ⟨rfl, (fun x hx => by cases hx), h⟩
  | i + 1 => by
    obtain ⟨h1, h2, h3⟩ := boxAt_ok ht hk h i
    show (boxStep sc top kind i _).1.length = i + 1 ∧ (∀ x ∈ (boxStep sc top kind i _).1, 1 ≤ x ∧ x ≤ top) ∧ RowOk (boxStep sc top kind i _).2
    unfold boxStep
    split
    · have t := takenV_ok (sc := sc) h3 ht
      refine ⟨by simp [h1], fun x hx => ?_, t.2.2⟩
      rcases List.mem_append.mp hx with q | q
      · exact h2 x q
      · rw [List.mem_singleton] at q
        have := t.1
        have := t.2.1
        omega
    · have t := takenV_ok (sc := sc) (many := kind) h3 (by omega)
      have u := takenV_ok (sc := sc) (many := 3) t.2.2 (by decide)
      refine ⟨by simp [h1], fun x hx => ?_, u.2.2⟩
      rcases List.mem_append.mp hx with q | q
      · exact h2 x q
      · rw [List.mem_singleton] at q
        omega
def boxV (sc : List Int) (w : Dw) (most top : Int) : List Int × Dw :=
  let m := takenV sc w most
  let k := takenV sc m.2 4
  let st := boxAt sc top k.1 k.2 (1 + m.1).toNat
  (sortI st.1, st.2)
theorem boxV_ok {sc : List Int} {w : Dw} {most top : Int} (h : RowOk w) (hm : 0 < most) (ht : 0 < top) :
    1 ≤ (boxV sc w most top).1.length ∧ ((boxV sc w most top).1.length : Int) ≤ most ∧ (∀ x ∈ (boxV sc w most top).1, 1 ≤ x ∧ x ≤ top) ∧ (boxV sc w most top).1.Pairwise (· ≤ ·) ∧ RowOk (boxV sc w most top).2 := by
  have m := takenV_ok (sc := sc) h hm
  have k := takenV_ok (sc := sc) (many := 4) m.2.2 (by decide)
  have b := boxAt_ok (sc := sc) (top := top) ht k.1 k.2.2 (1 + (takenV sc w most).1).toNat
  have hl : (boxV sc w most top).1.length = (1 + (takenV sc w most).1).toNat := ((sortI_perm _).length_eq).trans b.1
  refine ⟨by omega, by omega, fun x hx => b.2.1 x ((sortI_perm _).mem_iff.mp hx), sortI_up _, b.2.2⟩
end D

set_option Elab.async false
set_option linter.all false
set_option autoImplicit false
/-! Pr: loads, reaches, losses as plain functions; the safe load is the least reach. -/
namespace D
open PySem
/-- the gap's place -/
theorem gapOf_spec (ns : List Int) (l : Nat) : gapOf ns l ≤ ns.length - l ∧ (∀ m, m < gapOf ns l → ns.getD (m + l) 0 ≤ (ns.take m).sum + 1) ∧ (gapOf ns l < ns.length - l → (ns.take (gapOf ns l)).sum + 1 < ns.getD (gapOf ns l + l) 0) := by
  have hpw : (gaps ns l).Pairwise (· < ·) := (List.pairwise_lt_range (n := ns.length - l)).filter _
  have hmem : ∀ m, m ∈ gaps ns l ↔ m < ns.length - l ∧ (ns.take m).sum + 1 < ns.getD (m + l) 0 := fun m => by
    unfold gaps
    rw [List.mem_filter, List.mem_range, decide_eq_true_iff]
  refine ⟨gapOf_le ns l, ?_, ?_⟩
  all_goals
    unfold gapOf
    cases e : gaps ns l with
    | nil =>
      rw [e] at hmem
      intro h
      first
      | (intro hm
         have := (hmem h).mpr
         simp only [List.headD_nil] at hm
         by_cases c : (ns.take h).sum + 1 < ns.getD (h + l) 0
         · exact absurd (this ⟨hm, c⟩) (by simp)
         · omega)
      | (simp at h)
    | cons a as =>
      rw [e] at hpw hmem
      have h1 := (hmem a).mp List.mem_cons_self
      intro h
      first
      | (intro hm
         simp only [List.headD_cons] at hm
         by_cases c : (ns.take h).sum + 1 < ns.getD (h + l) 0
         · have h2 := (hmem h).mpr ⟨by omega, c⟩
           rcases List.mem_cons.mp h2 with z | z
           · omega
           · have := (List.pairwise_cons.mp hpw).1 h z
             omega
         · omega)
      | (exact h1.2)
/-! ### loads -/
def loadStep (found : List Int) (x : Int) : List Int := setI (found ++ found.map fun y => y + x)
def loadsV (ws : List Int) : List Int := ws.foldl loadStep [0]
theorem loadsV_snoc (ws : List Int) (x : Int) : loadsV (ws ++ [x]) = loadStep (loadsV ws) x := by
  unfold loadsV
  rw [List.foldl_append]
  rfl
theorem loadStep_len (fo : List Int) (x : Int) : (loadStep fo x).length ≤ 2 * fo.length := by
  have := setI_len (fo ++ fo.map fun y => y + x)
  rw [List.length_append, List.length_map] at this
  unfold loadStep
  omega
theorem foldl_len : ∀ (ws : List Int) (fo : List Int), (ws.foldl loadStep fo).length ≤ 2 ^ ws.length * fo.length
  | [], fo => by simp
  | x :: ws, fo => by
    have h1 := foldl_len ws (loadStep fo x)
    have h2 := loadStep_len fo x
    show (ws.foldl loadStep (loadStep fo x)).length ≤ 2 ^ (ws.length + 1) * fo.length
    have h3 : 2 ^ ws.length * (loadStep fo x).length ≤ 2 ^ ws.length * (2 * fo.length) := Nat.mul_le_mul_left _ h2
    have h4 : 2 ^ (ws.length + 1) * fo.length = 2 ^ ws.length * (2 * fo.length) := by rw [Nat.pow_succ, Nat.mul_assoc]
    omega
theorem loadsV_len (ws : List Int) : (loadsV ws).length ≤ 2 ^ ws.length := by
  have := foldl_len ws [0]
  simpa [loadsV] using this
/-- some of the weights weigh j -/
def Sub (ws : List Int) (j : Int) : Prop := ∃ l : List Int, l.Sublist ws ∧ l.sum = j
theorem sub_snoc {ws : List Int} {x j : Int} : Sub (ws ++ [x]) j ↔ Sub ws j ∨ Sub ws (j - x) := by
  constructor
  · rintro ⟨l, hl, rfl⟩
    obtain ⟨l1, l2, rfl, h1, h2⟩ := List.sublist_append_iff.mp hl
    have h3 : l2 = [] ∨ l2 = [x] := by
      rcases List.sublist_cons_iff.mp h2 with h | ⟨r, rfl, h⟩
      · exact .inl (List.sublist_nil.mp h)
      · exact .inr (by rw [List.sublist_nil.mp h])
    rcases h3 with rfl | rfl
    · exact .inl ⟨l1, h1, by simp⟩
    · exact .inr ⟨l1, h1, by simp⟩
  · rintro (⟨l, hl, rfl⟩ | ⟨l, hl, e⟩)
    · exact ⟨l, hl.trans (List.sublist_append_left _ _), rfl⟩
    · exact ⟨l ++ [x], hl.append (List.Sublist.refl _), by simp; omega⟩
theorem mem_loadStep {fo : List Int} {x j : Int} : j ∈ loadStep fo x ↔ j ∈ fo ∨ j - x ∈ fo := by
  unfold loadStep
  rw [setI_mem, List.mem_append, List.mem_map]
  constructor
  · rintro (h | ⟨y, h, rfl⟩)
    · exact .inl h
    · exact .inr (by rw [show y + x - x = y by omega]; exact h)
  · rintro (h | h)
    · exact .inl h
    · exact .inr ⟨j - x, h, by omega⟩
theorem mem_loadsV (ws : List Int) : ∀ j, j ∈ loadsV ws ↔ Sub ws j := by
  have key : ∀ k, k ≤ ws.length → ∀ j, j ∈ loadsV (ws.take k) ↔ Sub (ws.take k) j := by
    intro k
    induction k with
    | zero =>
      intro _ j
      show j ∈ [0] ↔ Sub [] j
      constructor
      · intro h; exact ⟨[], List.Sublist.refl _, (by simpa using h : j = 0).symm⟩
      · rintro ⟨l, hl, e⟩
        rw [List.sublist_nil.mp hl] at e
        simp at e; simp [← e]
    | succ k ih =>
      intro hk j
      have e : ws.take (k + 1) = ws.take k ++ [ws[k]] := by rw [List.take_succ, List.getElem?_eq_getElem (by omega)]; rfl
      rw [e, loadsV_snoc, mem_loadStep, sub_snoc, ih (by omega) j, ih (by omega) (j - _)]
  have := key ws.length (Nat.le_refl _)
  rwa [List.take_length] at this
/-! ### reaches -/
def reachGo (some : List Int) : Nat → Int → Int
  | 0, r => r
  | n + 1, r => if r + 1 ∈ some then reachGo some n (r + 1) else r
def topOf (some : List Int) : Nat := (some.foldl max 0).toNat
def reachV (ws : List Int) : Int := reachGo (loadsV ws) (topOf (loadsV ws)) 0
theorem reachGo_spec {some : List Int} : ∀ (n : Nat) (r : Int), (∀ x ∈ some, x ≤ r + n) → r ≤ reachGo some n r ∧ (∀ j, r < j → j ≤ reachGo some n r → j ∈ some) ∧ reachGo some n r + 1 ∉ some
  | 0, r, h => ⟨Int.le_refl _, fun j h1 h2 => by have h3 : j ≤ r := h2; omega, fun hm => by have := h _ hm; have : r + 1 ≤ r + (0 : Nat) := this; omega⟩
  | n + 1, r, h => by
    unfold reachGo
    by_cases c : r + 1 ∈ some
    · rw [if_pos c]
      obtain ⟨h1, h2, h3⟩ := reachGo_spec n (r + 1) (fun x hx => by have := h x hx; omega)
      refine ⟨by omega, fun j q1 q2 => ?_, h3⟩
      by_cases e : j = r + 1
      · rw [e]; exact c
      · exact h2 j (by omega) q2
    · rw [if_neg c]
      exact ⟨Int.le_refl _, fun j h1 h2 => by omega, c⟩
theorem reachV_spec (ws : List Int) : 0 ≤ reachV ws ∧ (∀ j, 0 < j → j ≤ reachV ws → Sub ws j) ∧ ¬ Sub ws (reachV ws + 1) := by
  have h := reachGo_spec (some := loadsV ws) (topOf (loadsV ws)) 0 (fun x hx => by
    have := (foldl_max (loadsV ws) 0).2 x (List.mem_cons_of_mem _ hx)
    unfold topOf
    omega)
  exact ⟨h.1, fun j h1 h2 => (mem_loadsV ws j).mp (h.2.1 j h1 h2), fun z => h.2.2 ((mem_loadsV ws _).mpr z)⟩
/-- what bounds a reach -/
theorem reach_ge {ws : List Int} {S : Int} (h : ∀ j, 0 ≤ j → j ≤ S → Sub ws j) : S ≤ reachV ws := by
  obtain ⟨h0, h1, h2⟩ := reachV_spec ws
  by_cases c : S ≤ reachV ws
  · exact c
  · exact absurd (h (reachV ws + 1) (by omega) (by omega)) h2
theorem reach_le {ws : List Int} {S : Int} (h0 : 0 ≤ S) (h : ¬ Sub ws (S + 1)) : reachV ws ≤ S := by
  obtain ⟨_, h1, h2⟩ := reachV_spec ws
  by_cases c : reachV ws ≤ S
  · exact c
  · exact absurd (h1 (S + 1) (by omega) (by omega)) h
/-! ### losses -/
def keepN (n : Nat) (L : List Int) : List Nat := (List.range n).filter fun i => !decide ((i : Int) ∈ L)
def leftV (ns L : List Int) : List Int := (keepN ns.length L).map fun i => ns.getD i 0
def powStep (found : List (List Int)) (k : Nat) : List (List Int) := found ++ found.map fun t => t ++ [(k : Int)]
def powV : Nat → List (List Int)
  | 0 => [[]]
  | n + 1 => powStep (powV n) n
theorem powV_len : ∀ n, (powV n).length = 2 ^ n
  | 0 => rfl
  | n + 1 => by
    show (powStep (powV n) n).length = _
    unfold powStep
    rw [List.length_append, List.length_map, powV_len n, Nat.pow_succ]
    omega
theorem powV_lt : ∀ (n : Nat) (L : List Int), L ∈ powV n → ∀ x ∈ L, 0 ≤ x ∧ x < n
  | 0, L, h, x, hx => by
    rw [List.mem_singleton.mp h] at hx
    cases hx
  | n + 1, L, h, x, hx => by
    rcases List.mem_append.mp h with h | h
    · have := powV_lt n L h x hx
      omega
    · obtain ⟨t, ht, rfl⟩ := List.mem_map.mp h
      rcases List.mem_append.mp hx with q | q
      · have := powV_lt n t ht x q
        omega
      · rw [List.mem_singleton] at q
        omega
theorem powV_leN : ∀ (n : Nat) (L : List Int), L ∈ powV n → L.length ≤ n
  | 0, L, h => by rw [List.mem_singleton.mp h]; exact Nat.le_refl _
  | n + 1, L, h => by
    rcases List.mem_append.mp h with h | h
    · have := powV_leN n L h
      omega
    · obtain ⟨t, ht, rfl⟩ := List.mem_map.mp h
      have := powV_leN n t ht
      simp
      omega
theorem keepN_len : ∀ (n : Nat) (L : List Int), L ∈ powV n → (keepN n L).length + L.length = n
  | 0, L, h => by rw [List.mem_singleton.mp h]; rfl
  | n + 1, L, h => by
    have key : ∀ t, t ∈ powV n → (n : Int) ∉ t := fun t ht z => by have := powV_lt n t ht _ z; omega
    unfold keepN
    rw [List.range_succ, List.filter_append, List.length_append]
    rcases List.mem_append.mp h with h | h
    · have h1 := keepN_len n L h
      have h2 := key L h
      unfold keepN at h1
      simp only [List.filter_cons, List.filter_nil, h2, decide_false, Bool.not_false, if_true, List.length_singleton]
      omega
    · obtain ⟨t, ht, rfl⟩ := List.mem_map.mp h
      have h1 := keepN_len n t ht
      unfold keepN at h1
      have e : (List.range n).filter (fun (i : Nat) => !decide ((i : Int) ∈ t ++ [(n : Int)])) = (List.range n).filter (fun (i : Nat) => !decide ((i : Int) ∈ t)) := List.filter_congr fun i hi => by
        have hlt := List.mem_range.mp hi
        have : ((i : Int) ∈ t ++ [(n : Int)]) ↔ (i : Int) ∈ t := by
          rw [List.mem_append, List.mem_singleton]
          constructor
          · rintro (z | z)
            · exact z
            · omega
          · exact .inl
        simp only [this]
      rw [e]
      simp
      omega
theorem filter_pow (p : Nat → Bool) : ∀ n, ((List.range n).filter p).map (fun (i : Nat) => (i : Int)) ∈ powV n
  | 0 => List.mem_singleton.mpr rfl
  | n + 1 => by
    have ih := filter_pow p n
    rw [List.range_succ, List.filter_append, List.map_append]
    by_cases c : p n = true
    · refine List.mem_append.mpr (.inr (List.mem_map.mpr ⟨_, ih, ?_⟩))
      simp [c]
    · refine List.mem_append.mpr (.inl ?_)
      simpa [c] using ih
theorem map_getD (ns : List Int) : (List.range ns.length).map (fun i => ns.getD i 0) = ns := by
  apply List.ext_getElem?
  intro i
  rw [List.getElem?_map]
  by_cases c : i < ns.length
  · rw [List.getElem?_range c, List.getElem?_eq_getElem c]
    simp [List.getD_eq_getElem?_getD, List.getElem?_eq_getElem c]
  · rw [List.getElem?_eq_none (by simpa using c), List.getElem?_eq_none (by simpa using c)]
    rfl
theorem leftV_sub (ns L : List Int) : (leftV ns L).Sublist ns := by
  have h : (leftV ns L).Sublist ((List.range ns.length).map fun i => ns.getD i 0) := (List.filter_sublist).map _
  rwa [map_getD] at h
/-! ### parts of a list that rises -/
theorem sub_get : ∀ {ls ns : List Int}, ls.Sublist ns → ns.Pairwise (· ≤ ·) → ∀ (i : Nat) (x : Int), ls[i]? = some x → (∃ z, ns[i]? = some z ∧ z ≤ x) ∧ (∃ y, ns[i + (ns.length - ls.length)]? = some y ∧ x ≤ y) := by
  intro ls ns h
  induction h with
  | slnil => intro _ i x e; simp at e
  | @cons ls ns a h ih =>
    intro hp i x e
    have p := List.pairwise_cons.mp hp
    have hl := h.length_le
    obtain ⟨⟨z, z1, z2⟩, ⟨y, y1, y2⟩⟩ := ih p.2 i x e
    refine ⟨?_, y, ?_, y2⟩
    · cases i with
      | zero => exact ⟨a, rfl, Int.le_trans (p.1 z (List.mem_of_getElem? z1)) z2⟩
      | succ i =>
        have hi : i + 1 < ns.length := (List.getElem?_eq_some_iff.mp z1).1
        refine ⟨ns[i]'(by omega), by rw [List.getElem?_cons_succ, List.getElem?_eq_getElem], ?_⟩
        have q := List.pairwise_iff_getElem.mp p.2 i (i + 1) (by omega) hi (by omega)
        have e2 : ns[i + 1] = z := (List.getElem?_eq_some_iff.mp z1).2
        omega
    · rw [List.length_cons, show i + (ns.length + 1 - ls.length) = i + (ns.length - ls.length) + 1 by omega, List.getElem?_cons_succ]
      exact y1
  | @cons_cons ls ns a h ih =>
    intro hp i x e
    have p := List.pairwise_cons.mp hp
    have hl := h.length_le
    rw [List.length_cons, List.length_cons, show ns.length + 1 - (ls.length + 1) = ns.length - ls.length by omega]
    cases i with
    | zero =>
      have e' : a = x := by simpa using e
      subst e'
      refine ⟨⟨a, rfl, Int.le_refl _⟩, ?_⟩
      rw [Nat.zero_add]
      cases hd : ns.length - ls.length with
      | zero => exact ⟨a, rfl, Int.le_refl _⟩
      | succ k =>
        have hk : k < ns.length := by omega
        exact ⟨ns[k], by rw [List.getElem?_cons_succ, List.getElem?_eq_getElem hk], p.1 _ (List.getElem_mem hk)⟩
    | succ i =>
      obtain ⟨⟨z, z1, z2⟩, ⟨y, y1, y2⟩⟩ := ih p.2 i x (by simpa using e)
      exact ⟨⟨z, by rw [List.getElem?_cons_succ]; exact z1, z2⟩, y, by rw [show i + 1 + (ns.length - ls.length) = i + (ns.length - ls.length) + 1 by omega, List.getElem?_cons_succ]; exact y1, y2⟩
theorem sum_take_succ {ls : List Int} {i : Nat} {x : Int} (h : ls[i]? = some x) : (ls.take (i + 1)).sum = (ls.take i).sum + x := by
  rw [List.take_succ, h]
  simp
theorem sum_take_le {ls ns : List Int} (h : ls.Sublist ns) (hp : ns.Pairwise (· ≤ ·)) : ∀ i, i ≤ ls.length → (ns.take i).sum ≤ (ls.take i).sum
  | 0, _ => Int.le_refl _
  | i + 1, hi => by
    have e : ls[i]? = some ls[i] := List.getElem?_eq_getElem (by omega)
    obtain ⟨⟨z, z1, z2⟩, _⟩ := sub_get h hp i _ e
    rw [sum_take_succ z1, sum_take_succ e]
    have := sum_take_le h hp i (by omega)
    omega
/-- no gap: all is weighed -/
theorem cover {ls : List Int} : ∀ g, g ≤ ls.length → (∀ i x, i < g → ls[i]? = some x → x ≤ (ls.take i).sum + 1) → ∀ j, 0 ≤ j → j ≤ (ls.take g).sum → Sub (ls.take g) j
  | 0, _, _, j, h0, h1 => ⟨[], by simp, by simp at h1 ⊢; omega⟩
  | g + 1, hg, h, j, h0, h1 => by
    have e : ls[g]? = some ls[g] := List.getElem?_eq_getElem (by omega)
    have e2 : ls.take (g + 1) = ls.take g ++ [ls[g]] := by rw [List.take_succ, e]; rfl
    rw [sum_take_succ e] at h1
    have hx := h g _ (Nat.lt_succ_self _) e
    rw [e2]
    rw [sub_snoc]
    by_cases c : j ≤ (ls.take g).sum
    · exact .inl (cover g (by omega) (fun i x hi => h i x (by omega)) j h0 c)
    · exact .inr (cover g (by omega) (fun i x hi => h i x (by omega)) (j - ls[g]) (by omega) (by omega))
theorem Sub.mono {ls ns : List Int} (h : ls.Sublist ns) {j : Int} (s : Sub ls j) : Sub ns j := by
  obtain ⟨l, hl, e⟩ := s
  exact ⟨l, hl.trans h, e⟩
/-- a part that lost l weights reaches the safe load -/
theorem safe_le {ls ns : List Int} (h : ls.Sublist ns) (hp : ns.Pairwise (· ≤ ·)) {l : Nat} (hl : ls.length + l = ns.length) : safeOf ns l ≤ reachV ls := by
  obtain ⟨g1, g2, g3⟩ := gapOf_spec ns l
  have hg : gapOf ns l ≤ ls.length := by omega
  have hs := sum_take_le h hp (gapOf ns l) hg
  refine reach_ge fun j j0 j1 => Sub.mono (List.take_sublist (gapOf ns l) ls) (cover (gapOf ns l) hg (fun i x hi e => ?_) j j0 (Int.le_trans j1 hs))
  obtain ⟨_, y, y1, y2⟩ := sub_get h hp i x e
  have q := g2 i hi
  rw [show ns.length - ls.length = l by omega] at y1
  rw [List.getD_eq_getElem?_getD, y1] at q
  have := sum_take_le h hp i (by have := (List.getElem?_eq_some_iff.mp e).1; omega)
  have q' : y ≤ (ns.take i).sum + 1 := q
  omega
end D

set_option Elab.async false
set_option linter.all false
set_option autoImplicit false
/-! Ps: the least reach over all losses. -/
namespace D
open PySem PySem.Spec PyProof.Rows L2
theorem lex_total : ∀ x y : List Int, (!HT.lexLt y x || !HT.lexLt x y) = true
  | [], [] => rfl
  | [], y :: t => rfl
  | x :: r, [] => rfl
  | x :: r, y :: t => by
    rw [HT.lexLt_cons, HT.lexLt_cons]
    by_cases e : x = y
    · subst e
      rw [if_pos rfl, if_pos rfl]
      exact lex_total r t
    · rw [if_neg e, if_neg (fun z => e z.symm)]
      by_cases c : x < y
      · rw [decide_eq_true c, decide_eq_false (show ¬ y < x by omega)]; rfl
      · rw [decide_eq_false c, decide_eq_true (show y < x by omega)]; rfl
theorem lex_trans : ∀ x y z : List Int, (!HT.lexLt y x) = true → (!HT.lexLt z y) = true → (!HT.lexLt z x) = true
  | [], y, z, _, _ => by cases z <;> rfl
  | x :: r, [], z, h, _ => by cases h
  | x :: r, y :: t, [], _, h => by cases h
  | x :: r, y :: t, z :: u, h1, h2 => by
    rw [HT.lexLt_cons] at h1 h2 ⊢
    by_cases e1 : x = y
    · subst e1
      rw [if_pos rfl] at h1
      by_cases e2 : x = z
      · subst e2
        rw [if_pos rfl] at h2 ⊢
        exact lex_trans r t u h1 h2
      · rw [if_neg (fun q => e2 q.symm)] at h2 ⊢
        exact h2
    · rw [if_neg (fun q => e1 q.symm)] at h1
      have c1 : ¬ y < x := by simpa using h1
      by_cases e2 : y = z
      · subst e2
        rw [if_neg (fun q => e1 q.symm)]
        simpa using c1
      · rw [if_neg (fun q => e2 q.symm)] at h2
        have c2 : ¬ z < y := by simpa using h2
        rw [if_neg (fun q => by omega)]
        have : ¬ z < x := by omega
        simpa using this
def lossesR (n : Nat) (l : Nat) : List (List Int) := (powV n).filter fun t => decide ((t.length : Int) = (l : Int))
def lossesV (n l : Nat) : List (List Int) := (lossesR n l).mergeSort fun x y => !HT.lexLt y x
theorem lossesV_perm (n l : Nat) : (lossesV n l).Perm (lossesR n l) := List.mergeSort_perm _ _
theorem lossesV_up (n l : Nat) : (lossesV n l).Pairwise (fun x y => HT.lexLt y x = false) := by
  have h := List.pairwise_mergeSort (le := fun x y : List Int => !HT.lexLt y x) (fun a b c => lex_trans a b c) (fun a b => lex_total a b) (lossesR n l)
  exact h.imp fun h => by simpa using h
theorem mem_losses {n l : Nat} {L : List Int} : L ∈ lossesV n l ↔ L ∈ powV n ∧ L.length = l := by
  rw [(lossesV_perm n l).mem_iff]
  unfold lossesR
  rw [List.mem_filter, decide_eq_true_iff]
  exact and_congr_right fun _ => by omega
theorem losses_few (n l : Nat) : (lossesR n l).length < 2 ∨ ∀ t ∈ lossesR n l, t ≠ [] := by
  have hp : ∀ n, ∀ t ∈ powV n, t = [] ∨ t ≠ [] := fun n t _ => Classical.em _
  by_cases c : l = 0
  · left
    subst c
    have : ∀ n, (lossesR n 0).length = 1 := fun n => by
      induction n with
      | zero => rfl
      | succ n ih =>
        unfold lossesR at ih ⊢
        show ((powStep (powV n) n).filter _).length = 1
        unfold powStep
        rw [List.filter_append, List.length_append, ih, List.filter_eq_nil_iff.mpr]
        · rfl
        · intro t ht
          obtain ⟨u, _, rfl⟩ := List.mem_map.mp ht
          simp
          omega
    rw [this n]
    decide
  · right
    intro t ht e
    unfold lossesR at ht
    rw [List.mem_filter, decide_eq_true_iff] at ht
    rw [e] at ht
    have := ht.2
    simp at this
    omega
/-- the safe load by all losses -/
def safeL (ns : List Int) (l : Nat) : Int := minI ((lossesV ns.length l).map fun L => reachV (leftV ns L))
theorem sum_sub_le {l A : List Int} (h : l.Sublist A) (hp : ∀ x ∈ A, 0 ≤ x) : l.sum ≤ A.sum := by
  induction h with
  | slnil => exact Int.le_refl _
  | @cons l A a h ih =>
    have := hp a List.mem_cons_self
    have := ih fun x hx => hp x (List.mem_cons_of_mem _ hx)
    simp
    omega
  | @cons_cons l A a h ih =>
    have := ih fun x hx => hp x (List.mem_cons_of_mem _ hx)
    simp
    omega
theorem le_sum_mem {l : List Int} {x : Int} (h : x ∈ l) (hp : ∀ x ∈ l, 0 ≤ x) : x ≤ l.sum := by
  have := sum_sub_le (List.singleton_sublist.mpr h) hp
  simpa using this
theorem take_eq_map (ns : List Int) (g : Nat) (h : g ≤ ns.length) : ns.take g = (List.range g).map fun i => ns.getD i 0 := by
  apply List.ext_getElem?
  intro i
  rw [List.getElem?_map, List.getElem?_take]
  by_cases c : i < g
  · rw [if_pos c, List.getElem?_range c, List.getElem?_eq_getElem (by omega)]
    simp [List.getD_eq_getElem?_getD, List.getElem?_eq_getElem (show i < ns.length by omega)]
  · rw [if_neg c, List.getElem?_eq_none (by simpa using c)]
    rfl
/-- the loss of the places g .. g + l - 1 -/
def gapLoss (n g l : Nat) : List Int := ((List.range n).filter fun i => decide (g ≤ i) && decide (i < g + l)).map fun (i : Nat) => (i : Int)
theorem split_range (g l m : Nat) : List.range (g + (l + m)) = List.range g ++ ((List.range l).map (fun i => g + i) ++ (List.range m).map fun i => g + (l + i)) := by
  rw [List.range_add, List.range_add, List.map_append, List.map_map]
  rfl
theorem gapLoss_len (g l m : Nat) : (gapLoss (g + (l + m)) g l).length = l := by
  unfold gapLoss
  rw [List.length_map, split_range, List.filter_append, List.filter_append, List.filter_eq_nil_iff.mpr, List.nil_append, List.filter_eq_self.mpr, List.filter_eq_nil_iff.mpr, List.append_nil, List.length_map, List.length_range]
  · intro i hi
    obtain ⟨j, hj, rfl⟩ := List.mem_map.mp hi
    simp
  · intro i hi
    obtain ⟨j, hj, rfl⟩ := List.mem_map.mp hi
    have := List.mem_range.mp hj
    simp
    omega
  · intro i hi
    have := List.mem_range.mp hi
    simp
    omega
theorem gapLoss_left (ns : List Int) (g l m : Nat) (h : ns.length = g + (l + m)) : leftV ns (gapLoss ns.length g l) = ns.take g ++ (List.range m).map fun i => ns.getD (g + (l + i)) 0 := by
  have hk : keepN ns.length (gapLoss ns.length g l) = (List.range ns.length).filter fun i => !(decide (g ≤ i) && decide (i < g + l)) := by
    unfold keepN
    refine List.filter_congr fun i hi => ?_
    congr 1
    rw [Bool.eq_iff_iff, decide_eq_true_iff]
    unfold gapLoss
    rw [List.mem_map]
    constructor
    · rintro ⟨j, hj, e⟩
      have e' : j = i := by omega
      subst e'
      exact (List.mem_filter.mp hj).2
    · intro q
      exact ⟨i, List.mem_filter.mpr ⟨hi, q⟩, rfl⟩
  unfold leftV
  rw [hk, h, split_range, List.filter_append, List.filter_append, List.filter_eq_self.mpr, List.filter_eq_nil_iff.mpr, List.nil_append, List.filter_eq_self.mpr, List.map_append, List.map_map, ← take_eq_map ns g (by omega)]
  · rfl
  · intro i hi
    obtain ⟨j, hj, rfl⟩ := List.mem_map.mp hi
    simp
  · intro i hi
    obtain ⟨j, hj, rfl⟩ := List.mem_map.mp hi
    have := List.mem_range.mp hj
    simp
    omega
  · intro i hi
    have := List.mem_range.mp hi
    simp
    omega
theorem safeL_eq {ns : List Int} {l : Nat} (hp : ns.Pairwise (· ≤ ·)) (h0 : ∀ x ∈ ns, 0 ≤ x) (hl : l ≤ ns.length) : safeL ns l = safeOf ns l := by
  obtain ⟨g1, g2, g3⟩ := gapOf_spec ns l
  have hn : ns.length = gapOf ns l + (l + (ns.length - l - gapOf ns l)) := by omega
  have hS : 0 ≤ safeOf ns l := by
    have := sum_sub_le (List.nil_sublist (ns.take (gapOf ns l))) (fun x hx => h0 x (List.mem_of_mem_take hx))
    exact this
  have low : ∀ L ∈ lossesV ns.length l, safeOf ns l ≤ reachV (leftV ns L) := fun L hL => by
    obtain ⟨m1, m2⟩ := mem_losses.mp hL
    have := keepN_len ns.length L m1
    exact safe_le (leftV_sub ns L) hp (by unfold leftV; rw [List.length_map]; omega)
  have hm : gapLoss ns.length (gapOf ns l) l ∈ lossesV ns.length l := by
    refine mem_losses.mpr ⟨filter_pow _ _, ?_⟩
    rw [hn]
    exact gapLoss_len _ _ _
  have up : reachV (leftV ns (gapLoss ns.length (gapOf ns l) l)) ≤ safeOf ns l := by
    refine reach_le hS ?_
    rw [gapLoss_left ns (gapOf ns l) l _ hn]
    rintro ⟨t, ht, e⟩
    obtain ⟨t1, t2, rfl, s1, s2⟩ := List.sublist_append_iff.mp ht
    have a1 := sum_sub_le s1 fun x hx => h0 x (List.mem_of_mem_take hx)
    have a1' : t1.sum ≤ safeOf ns l := a1
    have hb : ∀ x ∈ t2, safeOf ns l + 1 < x := fun x hx => by
      obtain ⟨i, hi, rfl⟩ := List.mem_map.mp (s2.subset hx)
      have hi' := List.mem_range.mp hi
      have q := g3 (by omega)
      have e1 : gapOf ns l + l < ns.length := by omega
      have e2 : gapOf ns l + (l + i) < ns.length := by omega
      have r : ns.getD (gapOf ns l + l) 0 ≤ ns.getD (gapOf ns l + (l + i)) 0 := by
        rw [List.getD_eq_getElem?_getD, List.getD_eq_getElem?_getD, List.getElem?_eq_getElem e1, List.getElem?_eq_getElem e2]
        show ns[gapOf ns l + l] ≤ ns[gapOf ns l + (l + i)]
        by_cases c : i = 0
        · subst c; exact Int.le_refl _
        · exact List.pairwise_iff_getElem.mp hp _ _ e1 e2 (by omega)
      have q' : safeOf ns l + 1 < ns.getD (gapOf ns l + l) 0 := q
      omega
    rw [List.sum_append] at e
    have t10 : 0 ≤ t1.sum := sum_sub_le (List.nil_sublist t1) fun x hx => h0 x (List.mem_of_mem_take (s1.subset hx))
    cases t2 with
    | nil => simp at e; omega
    | cons x t2 =>
      have := le_sum_mem (l := x :: t2) List.mem_cons_self fun y hy => by have := hb y hy; omega
      have := hb x List.mem_cons_self
      omega
  refine minI_eq (List.mem_map.mpr ⟨_, hm, Int.le_antisymm up (low _ hm)⟩) fun y hy => ?_
  obtain ⟨L, hL, rfl⟩ := List.mem_map.mp hy
  exact low L hL
end D

set_option Elab.async false
set_option linter.all false
set_option autoImplicit false
/-! Pv: spared weights, the best one to be added, as plain functions. -/
namespace D
open PySem PySem.Spec PyProof.Rows L2
/-- the list without the place i -/
def dropAt (ns : List Int) (i : Nat) : List Int := ns.take i ++ ns.drop (i + 1)
theorem cut_to {α : Type} (xs : List α) (i : Nat) (h : i ≤ xs.length) : cut xs none (some (i : Int)) = xs.take i := by
  unfold cut
  have e1 : HT.sIx xs.length 0 none = 0 := rfl
  have e2 : HT.sIx xs.length xs.length (some (i : Int)) = i := by
    simp only [HT.sIx]
    split <;> omega
  rw [e1, e2]
  simp
theorem cut_from {α : Type} (xs : List α) (i : Nat) (h : i ≤ xs.length) : cut xs (some (i : Int)) none = xs.drop i := by
  unfold cut
  have e2 : HT.sIx xs.length 0 (some (i : Int)) = i := by
    simp only [HT.sIx]
    split <;> omega
  have e1 : HT.sIx xs.length xs.length none = xs.length := rfl
  rw [e1, e2, List.take_of_length_le (by simp)]
def spareP (ns : List Int) (l : Nat) (i : Nat) : Bool := decide (l ≤ (dropAt ns i).length) && (!(dropAt ns i).isEmpty && decide (safeOf (dropAt ns i) l = safeOf ns l))
def spareV (ns : List Int) (l : Nat) : List Nat := (List.range ns.length).filter (spareP ns l)
/-- the safe load with one weight more -/
def withV (ns : List Int) (l : Nat) (x : Int) : Int := safeOf (sortI (ns ++ [x])) l
def bestStep (f : Int → Int) (best : Option (Int × Int)) (x : Int) : Option (Int × Int) := match best with
  | none => some (x, f x)
  | some p => if p.2 < f x then some (x, f x) else some p
def bestD : Option (Int × Int) → PyData
  | none => .none
  | some p => .tuple [.int p.1, .int p.2]
/-- the best of 1, 2 .. n -/
def bestTo (f : Int → Int) : Nat → Option (Int × Int)
  | 0 => none
  | n + 1 => bestStep f (bestTo f n) (n + 1 : Int)
theorem bestTo_some (f : Int → Int) : ∀ n, ∃ p, bestTo f (n + 1) = some p
  | 0 => ⟨_, rfl⟩
  | n + 1 => by
    obtain ⟨p, e⟩ := bestTo_some f n
    show ∃ q, bestStep f (bestTo f (n + 1)) _ = some q
    rw [e]
    unfold bestStep
    by_cases c : p.2 < f ((n + 1 : Nat) + 1 : Int)
    · exact ⟨_, if_pos c⟩
    · exact ⟨_, if_neg c⟩
theorem gap_one {ns : List Int} {l g : Nat} (h1 : g ≤ ns.length - l) (h2 : ∀ m, m < g → ns.getD (m + l) 0 ≤ (ns.take m).sum + 1) (h3 : g < ns.length - l → (ns.take g).sum + 1 < ns.getD (g + l) 0) : gapOf ns l = g := by
  obtain ⟨q1, q2, q3⟩ := gapOf_spec ns l
  rcases Nat.lt_trichotomy (gapOf ns l) g with c | c | c
  · have := h2 _ c
    have := q3 (by omega)
    omega
  · exact c
  · have := q2 _ c
    have := h3 (by omega)
    omega
theorem safeOf_far {ns : List Int} {l : Nat} {x : Int} (h0 : ∀ y ∈ ns, 0 ≤ y) (hl : l ≤ ns.length) (hx : ns.sum + 2 ≤ x) : safeOf (ns ++ [x]) l = safeOf ns l := by
  obtain ⟨q1, q2, q3⟩ := gapOf_spec ns l
  have tk : ∀ m, m ≤ ns.length → (ns ++ [x]).take m = ns.take m := fun m hm => List.take_append_of_le_length hm
  have gd : ∀ m, m < ns.length → (ns ++ [x]).getD m 0 = ns.getD m 0 := fun m hm => by
    rw [List.getD_eq_getElem?_getD, List.getD_eq_getElem?_getD, List.getElem?_append_left hm]
  have e : gapOf (ns ++ [x]) l = gapOf ns l := by
    refine gap_one (by simp; omega) (fun m hm => ?_) (fun h => ?_)
    · rw [gd _ (by omega), tk _ (by omega)]
      exact q2 m hm
    · rw [tk _ (by omega)]
      by_cases c : gapOf ns l < ns.length - l
      · rw [gd _ (by omega)]
        exact q3 c
      · have e1 : gapOf ns l + l = ns.length := by omega
        have e2 : (ns ++ [x]).getD (gapOf ns l + l) 0 = x := by
          rw [e1, List.getD_eq_getElem?_getD, List.getElem?_append_right (Nat.le_refl _)]
          simp
        rw [e2]
        have := sum_sub_le (List.take_sublist (gapOf ns l) ns) h0
        omega
  unfold safeOf
  rw [e, tk _ (by omega)]
theorem withV_far {ns : List Int} {l : Nat} {x : Int} (hp : ns.Pairwise (· ≤ ·)) (h0 : ∀ y ∈ ns, 0 ≤ y) (hl : l ≤ ns.length) (hx : ns.sum + 2 ≤ x) : withV ns l x = safeOf ns l := by
  have e : sortI (ns ++ [x]) = ns ++ [x] := (sortI_one (List.Perm.refl _) (List.pairwise_append.mpr ⟨hp, List.pairwise_singleton _ _, fun y hy z hz => by
    rw [List.mem_singleton.mp hz]
    have := le_sum_mem hy h0
    omega⟩)).symm
  unfold withV
  rw [e]
  exact safeOf_far h0 hl hx
theorem bestTo_spec (f : Int → Int) : ∀ (n : Nat) (p : Int × Int), bestTo f n = some p → 1 ≤ p.1 ∧ p.1 ≤ n ∧ p.2 = f p.1 ∧ ∀ y : Int, 1 ≤ y → y ≤ n → f y ≤ p.2
  | 0, p, h => by cases h
  | n + 1, p, h => by
    have h' : bestStep f (bestTo f n) ((n : Int) + 1) = some p := h
    cases e : bestTo f n with
    | none =>
      rw [e] at h'
      have h2 : p = ((n : Int) + 1, f ((n : Int) + 1)) := (Option.some.inj h').symm
      subst h2
      cases n with
      | zero => exact ⟨by omega, by omega, rfl, fun y h1 h2 => by rw [show y = ((0 : Nat) : Int) + 1 by omega]; exact Int.le_refl _⟩
      | succ n =>
        obtain ⟨q, hq⟩ := bestTo_some f n
        rw [e] at hq; cases hq
    | some q =>
      obtain ⟨q1, q2, q3, q4⟩ := bestTo_spec f n q e
      rw [e] at h'
      have h2 : (if q.2 < f ((n : Int) + 1) then some ((n : Int) + 1, f ((n : Int) + 1)) else some q) = some p := h'
      by_cases c : q.2 < f ((n : Int) + 1)
      · rw [if_pos c] at h2
        have h3 := Option.some.inj h2
        subst h3
        refine ⟨by show 1 ≤ (n : Int) + 1; omega, by show (n : Int) + 1 ≤ _; omega, rfl, fun y y1 y2 => ?_⟩
        by_cases d : y = (n : Int) + 1
        · rw [d]; exact Int.le_refl _
        · have := q4 y y1 (by omega)
          show f y ≤ f ((n : Int) + 1)
          omega
      · rw [if_neg c] at h2
        have h3 := Option.some.inj h2
        subst h3
        refine ⟨q1, by omega, q3, fun y y1 y2 => ?_⟩
        by_cases d : y = (n : Int) + 1
        · rw [d]; omega
        · exact q4 y y1 (by omega)
theorem bestTo_more (f : Int → Int) (g : Nat) (hg : 1 ≤ g) (h : ∀ x : Int, (g : Int) < x → f x ≤ f g) : ∀ k, bestTo f (g + k) = bestTo f g
  | 0 => rfl
  | k + 1 => by
    have ih := bestTo_more f g hg h k
    show bestStep f (bestTo f (g + k)) (((g + k : Nat) : Int) + 1) = bestTo f g
    rw [ih]
    cases e : bestTo f g with
    | none =>
      obtain ⟨n, rfl⟩ : ∃ n, g = n + 1 := ⟨g - 1, by omega⟩
      obtain ⟨p, hp⟩ := bestTo_some f n
      rw [e] at hp; cases hp
    | some p =>
      obtain ⟨_, _, _, q4⟩ := bestTo_spec f g p e
      have h1 := q4 g (by omega) (by omega)
      have h2 := h (((g + k : Nat) : Int) + 1) (by omega)
      show (if p.2 < f (((g + k : Nat) : Int) + 1) then _ else some p) = some p
      rw [if_neg (by omega)]
theorem dropAt_sub (ns : List Int) (i : Nat) : (dropAt ns i).Sublist ns := by
  have h : (ns.take i ++ ns.drop (i + 1)).Sublist (ns.take i ++ ns.drop i) := (List.Sublist.refl _).append (by
    rw [← List.drop_drop]
    exact List.drop_sublist _ _)
  rwa [List.take_append_drop] at h
theorem isBox_of {ns : List Int} (h1 : 1 ≤ ns.length) (h2 : ns.length ≤ 10) (h3 : ∀ x ∈ ns, 1 ≤ x ∧ x ≤ 1000) (h4 : ns.Pairwise (· ≤ ·)) : IsBox ns := ⟨h1, h2, h3, fun i x y e1 e2 => by
  obtain ⟨i1, e1⟩ := List.getElem?_eq_some_iff.mp e1
  obtain ⟨i2, e2⟩ := List.getElem?_eq_some_iff.mp e2
  rw [← e1, ← e2]
  exact List.pairwise_iff_getElem.mp h4 i (i + 1) i1 i2 (by omega)⟩
theorem sum_le_mul {m : Int} : ∀ {ns : List Int}, (∀ x ∈ ns, x ≤ m) → ns.sum ≤ m * ns.length
  | [], _ => by simp
  | x :: ns, h => by
    have h1 := h x List.mem_cons_self
    have h2 := sum_le_mul (m := m) (ns := ns) fun y hy => h y (List.mem_cons_of_mem _ hy)
    rw [List.sum_cons, List.length_cons, Int.natCast_succ, Int.mul_add]
    omega
end D

set_option Elab.async false
set_option linter.all false
set_option maxRecDepth 100000
set_option maxHeartbeats 1000000
set_option autoImplicit false
/-! Dl10: dicts of ints, zip of tuples. -/
namespace D
open PySem PySem.Spec PyProof.Rows L2
abbrev dDl (kvs : List (Int × Int)) : List (PyData × PyData) := kvs.map fun p => (.int p.1, .int p.2)
abbrev dD (kvs : List (Int × Int)) : PyData := .dict (dDl kvs)
abbrev vD (kvs : List (Int × Int)) : List (Key × V) := kvs.map fun p => (.inl p.1, .int p.2)
def getI (kvs : List (Int × Int)) (k : Int) : Option Int := (kvs.find? fun p => decide (p.1 = k)).map (·.2)
def putI (kvs : List (Int × Int)) (k v : Int) : List (Int × Int) := if (kvs.any fun p => decide (p.1 = k)) = true then kvs.map (fun p => if p.1 = k then (p.1, v) else p) else kvs ++ [(k, v)]
theorem valV_ints (k : Int) : ∀ kvs : List (Int × Int), valV (vD kvs) (.inl k) = (getI kvs k).map V.int
  | [] => rfl
  | p :: kvs => by
    have ih := valV_ints k kvs
    by_cases c : p.1 = k
    · have e : valV (vD (p :: kvs)) (.inl k) = some (.int p.2) := valV_pos (congrArg Sum.inl c)
      rw [e]
      simp [getI, c]
    · have e : valV (vD (p :: kvs)) (.inl k) = valV (vD kvs) (.inl k) := valV_neg (fun z => c (by injection z))
      rw [e, ih]
      simp [getI, c]
theorem putK_ints (kvs : List (Int × Int)) (k v : Int) : putK (vD kvs) (.inl k) (.int v) = vD (putI kvs k v) := by
  have e : ((vD kvs).any fun p => decide (p.1 = .inl k)) = (kvs.any fun p => decide (p.1 = k)) := by
    rw [List.any_map]
    congr 1
    funext p
    show decide ((Sum.inl p.1 : Key) = .inl k) = decide (p.1 = k)
    by_cases c : p.1 = k
    · rw [decide_eq_true c, decide_eq_true (congrArg Sum.inl c)]
    · rw [decide_eq_false c, decide_eq_false (fun z => c (by injection z))]
  unfold putK putI
  rw [e]
  split
  · show List.map _ (List.map _ kvs) = List.map _ (List.map _ kvs)
    rw [List.map_map, List.map_map]
    refine List.map_congr_left fun p _ => ?_
    show (if (Sum.inl p.1 : Key) = .inl k then _ else _) = _
    by_cases c : p.1 = k
    · rw [if_pos (congrArg Sum.inl c)]
      show _ = (Sum.inl (if p.1 = k then (p.1, v) else p).1, V.int (if p.1 = k then (p.1, v) else p).2)
      rw [if_pos c]
    · rw [if_neg (fun z => c (by injection z))]
      show _ = (Sum.inl (if p.1 = k then (p.1, v) else p).1, V.int (if p.1 = k then (p.1, v) else p).2)
      rw [if_neg c]
  · show List.map _ kvs ++ _ = List.map _ (kvs ++ _)
    rw [List.map_append]
    rfl
section
variable {K : PySem.W.Frag} {G H : Hp}
theorem RpK.ofInts : ∀ kvs : List (Int × Int), RpK K G (vD kvs) (dDl kvs)
  | [] => .nil
  | p :: kvs => .cons (k := .inl p.1) (.int p.2) (RpK.ofInts kvs)
theorem RpK.ints : ∀ {kvs : List (Int × Int)} {vs : List (Key × V)}, RpK K G vs (dDl kvs) → vs = vD kvs
  | [], vs, h => by
    generalize hd : dDl [] = d at h
    cases h with
    | nil => rfl
    | cons h t => cases hd
  | p :: kvs, vs, h => by
    generalize hd : dDl (p :: kvs) = d at h
    cases h with
    | nil => cases hd
    | @cons k v vs d ds h t =>
      have e1 : (PyData.int p.1, PyData.int p.2) = (keyD k, d) := (List.cons.inj hd).1
      have e2 : dDl kvs = ds := (List.cons.inj hd).2
      have e3 : PyData.int p.1 = keyD k := congrArg Prod.fst e1
      have e4 : PyData.int p.2 = d := congrArg Prod.snd e1
      subst e2
      subst e4
      have ek : k = .inl p.1 := by
        cases k with
        | inl i => exact congrArg Sum.inl (by injection e3 with e; exact e.symm)
        | inr x => cases e3
      have ev : v = .int p.2 := by cases h; rfl
      rw [ek, ev, RpK.ints t]
      rfl
theorem Rp.dD {kvs : List (Int × Int)} {v : V} (h : Rp K G v (D.dD kvs)) : ∃ a o, v = .ref a ∧ G a = some (.frz o (.dK (vD kvs))) := by
  generalize hd : D.dD kvs = d at h
  cases h with
  | scr h =>
    exfalso
    cases kvs with
    | nil => cases hd
    | cons p kvs =>
      have := (PyData.dict.inj hd)
      cases (List.cons.inj this).1
  | @dic a o vs ds h t =>
    have e : dDl kvs = ds := PyData.dict.inj hd
    subst e
    rw [t.ints] at h
    exact ⟨a, o, rfl, h⟩
  | _ => cases hd
end
section
variable {X : Cx} {e : Expr} {t : TE} {sts : List Stmt} {ts : TS}
theorem pe_lock (h : PE X e t) : PE X e (fun σ H Q => t σ H fun v H1 => ∃ d u, v = .ref d ∧ H1 d = some u ∧ Mut (some u) ∧ ∀ od, Q v (upd H1 d (.frz od u))) :=
  ⟨fun pins s σ H Q I q => thn (h.run pins s σ H _ I q) fun u s1 ⟨v, H1, I1, r, d, u', ev, hd, mu, q1⟩ => by
    obtain ⟨od, I2⟩ := I1.lock hd mu
    exact ⟨v, _, I2, r, q1 od⟩⟩
theorem pss_lock (h : PSs X sts ts) : PSs X sts (fun D σ H => ∃ d u, H d = some u ∧ Mut (some u) ∧ ∀ od, ts D σ (upd H d (.frz od u))) :=
  ⟨fun pins s σ H D I ⟨d, u, hd, mu, q⟩ => by
    obtain ⟨od, I2⟩ := I.lock hd mu
    exact h.run pins s σ _ D I2 (q od)⟩
end
theorem upd_twice {H : Hp} {p : Addr} {o u : HO} : upd (upd H p o) p u = upd H p u := by
  funext c
  by_cases e : c = p
  · subst e; rw [upd_same, upd_same]
  · rw [upd_ne e, upd_ne e, upd_ne e]
section
variable {K : PySem.W.Frag} {tb : Tbs} {b : Bx tb} {G H : Hp} {σ : L2.St} {S : List Sl} {p : Addr}
theorem StOk.slotD (h : StOk K b G H σ S) {i : Nat} {kvs : List (Int × Int)} (e : S[i]? = some (.dic (dDl kvs))) : ∃ p, σ[i]? = some (some (.ref p)) ∧ Apart b G p true ∧ H p = some (.dK (vD kvs)) := by
  obtain ⟨o, h1, p, h2, h3, vs, h5, r⟩ := h.at_ i _ e
  rw [r.ints] at h5
  exact ⟨p, by rw [h1, h2], h3, h5⟩
theorem StOk.freezeD (h : StOk K b G H σ S) {i : Nat} {kvs : List (Int × Int)} (e : S[i]? = some (.dic (dDl kvs))) (e1 : σ[i]? = some (some (.ref p))) (hp : H p = some (.dK (vD kvs))) (ap : Apart b G p true) (od : Obj) :
    Ex G (upd G p (.frz od (.dK (vD kvs)))) ∧ StOk K b (upd G p (.frz od (.dK (vD kvs)))) (upd H p (.frz od (.dK (vD kvs)))) σ (S.set i (.val (D.dD kvs))) := by
  have x : Ex G (upd G p (.frz od (.dK (vD kvs)))) := (Ex.refl G).new ap.hg
  have w : Owns σ S i p := ⟨⟨_, e, rfl⟩, e1⟩
  have h1 : StOk K b G H (σ.set i none) (S.set i .emp) := h.putEmp
  have hn : ∀ j q, Owns (σ.set i none) (S.set i .emp) j q → q ≠ p := fun j q w2 => by
    rcases w2.of_set with ⟨n, w3⟩ | ⟨_, z, _⟩
    · intro z
      subst z
      exact n (h.sep j i q w3 w)
    · cases z
  have h2 := h1.poke (o := .frz od (.dK (vD kvs))) ap.hg ap.hb hn
  have h3 := h2.know (o := .frz od (.dK (vD kvs))) ap.hg upd_same (ap.h0 rfl) hn
  have h4 := h3.putVal (i := i) (v := .ref p) (d := D.dD kvs) (.dic upd_same (RpK.ofInts kvs))
  rw [List.set_set, List.set_set, set_same e1] at h4
  exact ⟨x, h4⟩
end
section
variable {X : Cx} {tb : Tbs} {b : Bx tb} {S S1 S2 S3 : List Sl} {e f g tg it : Expr} {r : Rs} {d : PyData} {xs ys : List PyData} {pos p pd p1 p2 : Pos} {n m i : Int} {rest : List Stmt} {P : Po} {kvs : List (Int × Int)} {k v : Int}
/-- an own dict is taken as known from here on -/
theorem B_freezeD (i : Nat) (hs : S[i]? = some (.dic (dDl kvs))) (h : SS X b (S.set i (.val (dD kvs))) rest P) : SS X b S rest P :=
  PSs.w (pss_lock h) fun D σ H ⟨G, st, q1, q2, q3, q4, q5⟩ => by
    obtain ⟨q, e1, ap, hq⟩ := st.slotD hs
    refine ⟨q, _, hq, trivial, fun od => ?_⟩
    obtain ⟨x, st2⟩ := st.freezeD hs e1 hq ap od
    exact ⟨_, st2, fun G3 H3 σ3 S3 st3 x3 h => q1 G3 H3 σ3 S3 st3 (x.trans x3) h, fun v G3 H3 σ3 S3 d st3 x3 h => q2 v G3 H3 σ3 S3 d st3 (x.trans x3) h, fun G3 H3 σ3 S3 st3 x3 h => q3 G3 H3 σ3 S3 st3 (x.trans x3) h, fun G3 H3 σ3 S3 st3 x3 h => q4 G3 H3 σ3 S3 st3 (x.trans x3) h, fun G3 H3 σ3 S3 cls d fo st3 x3 r h => q5 G3 H3 σ3 S3 cls d fo st3 (x.trans x3) r h⟩
/-- {k: v}, both written -/
theorem E_disp1 {j j2 : Nat} : E X b S (.Dict [some (.Constant (.int k) j p1)] [.Constant (.int v) j2 p2] pos) (.val (dD [(k, v)])) S :=
  PE.w (pe_lock (pe_disp (pps_cons pe_int pe_int pps_nil) rfl rfl (by simp) (show 1 ≤ 15 by decide))) fun σ H Q ⟨G, st, q⟩ => fun a ha => by
    refine ⟨upd_same, [(.inl k, .int v)], rfl, (show 1 ≤ 15 by decide), a, _, rfl, upd_same, trivial, fun od => ?_⟩
    rw [upd_twice, upd_twice]
    exact q _ _ _ (st.new ha) (st.newEx ha) (.dic upd_same (RpK.ofInts [(k, v)]))
/-- x = {} -/
theorem B_dnew (i : Nat) {x : Str} {px : Pos} (hN : X.N.Nodup) (hi : X.N[i]? = some x) (hx : Loc X.env.scope x) (h : SS X b (S.set i (.dic (dDl []))) rest P) (hs : swapsWith (.Dict [] [] pd) (some (.Name x px)) pos.line X.env = pure false := by rfl) (hf : X.fn x = true ∨ X.env.scope.names.lookup x = some .local := by first | exact .inl rfl | exact .inr rfl) :
    SS X b S (.Assign [.Name x px] (.Dict [] [] pd) pos :: rest) P :=
  ss_cons (Mid := fun S' => S' = S.set i (.dic (dDl []))) (PS.w (ps_set hN hi hx pe_dnewK hs hf) fun D σ H ⟨G, st, q1, _⟩ => fun a ha => by
    have hg := st.sub.dom ha
    have st2 := st.poke (o := .dK []) hg (st.base.dom ha) fun i q w => st.ownNe ha w
    refine q1 G _ _ _ (st2.put (i := i) (s := .dic (dDl [])) (v := some (.ref a)) ⟨a, rfl, ⟨st.base.dom ha, hg, fun _ => st.nw _ ha, fun z => by cases z⟩, [], upd_same, .nil⟩ fun _ j q e _ w => ?_) (Ex.refl G) rfl
    cases e
    exact st.ownNe ha ⟨w.1, w.2⟩ rfl) fun S' h' => by rw [h']; exact h
/-- d[k] = v -/
theorem B_dset (i : Nat) {o : Str} {px : Pos} (hu : X.A.units + 1 < cLine) (hv : E X b S e (.val (.int v)) S1) (ho : PE X (.Name o px) (tVar i)) (hs0 : ∃ z, S1[i]? = some (.dic (dDl z))) (hk : E X b S1 f (.val (.int k)) S2) (hs2 : S2[i]? = some (.dic (dDl kvs))) (hz : kvs.length < sizeLine) (h : SS X b (S2.set i (.dic (dDl (putI kvs k v)))) rest P)
    (hs : swapsWith e (some (.Subscript (.Name o px) f p1)) pos.line X.env = pure false := by rfl) : SS X b S (.Assign [.Subscript (.Name o px) f p1] e pos :: rest) P :=
  ss_cons (Mid := fun S' => S' = S2.set i (.dic (dDl (putI kvs k v)))) (PS.w (ps_dput hu ho hk hv hs) fun D σ H ⟨G, st, q1, _⟩ => ⟨G, st, fun w G2 H2 st2 x2 r2 => by
    obtain ⟨z, hz0⟩ := hs0
    obtain ⟨a, e1, _, _⟩ := st2.slotD hz0
    cases r2
    refine ⟨_, e1, G2, st2, fun y G3 H3 st3 x3 r3 => ?_⟩
    cases r3
    obtain ⟨a', e1', ap, ha⟩ := st3.slotD hs2
    have ea : a' = a := by rw [e1] at e1'; cases e1'; rfl
    subst ea
    refine ⟨a', _, rfl, DPut.k (k := .inl k) ha (by rw [List.length_map]; exact hz), ?_⟩
    rw [putK_ints]
    exact q1 G3 _ σ _ (st3.write (s' := .dic (dDl (putI kvs k v))) e1 hs2 rfl rfl rfl ⟨_, upd_same, RpK.ofInts _⟩) (x2.trans x3) rfl⟩) fun S' h' => by rw [h']; exact h
/-- d.get(k, x), d an own dict -/
theorem E_dget (i : Nat) {o : Str} {px pa : Pos} (hu : X.A.units + 1 < cLine) (ho : PE X (.Name o px) (tVar i)) (hs0 : S[i]? = some (.dic (dDl kvs))) (hk : E X b S e (.val (.int k)) S) (hx : E X b S f (.val (.int v)) S) (hm : M2 X (.Name o px) "get" pa e f pos := by exact ⟨rfl, rfl, rfl, rfl⟩) :
    E X b S (.Call (.Attribute (.Name o px) "get" pa) [e, f] [] pos) (.val (.int ((getI kvs k).getD v))) S :=
  PE.w (pe_dget2 hu ho hk hx hm) fun σ H Q ⟨G, st, q⟩ => by
    obtain ⟨a, e1, ap, ha⟩ := st.slotD hs0
    refine ⟨_, e1, a, rfl, .inl ⟨_, .inl ha⟩, G, st, fun y G2 H2 st2 x2 r2 => ⟨G2, st2, fun z G3 H3 st3 x3 r3 => ?_⟩⟩
    cases r2; cases r3
    obtain ⟨a', e1', _, ha'⟩ := st3.slotD hs0
    have ea : a' = a := by rw [e1] at e1'; cases e1'; rfl
    subst ea
    refine ⟨_, DGet.k (k := .inl k) ha', ?_⟩
    rw [valV_ints]
    have e9 : ((getI kvs k).map V.int).getD (.int v) = .int ((getI kvs k).getD v) := by cases getI kvs k <;> rfl
    rw [e9]
    exact q _ G3 H3 st3 (x2.trans x3) (.int _)
/-- for k, v in d.items() -/
theorem I_items {elts : List Expr} {kk : Nat} {tpos apos cpos : Pos} (h : E X b S e (.val (dD kvs)) S1) (hbase : attributeBase e "items" X.env (eval e X.env) = eval e X.env := by rfl) (hline : (apos.endLine == cpos.line) = true := by rfl) :
    IT X b S (.Tuple elts kk tpos) (.Call (.Attribute e "items" apos) [] [] cpos) (kvs.map fun p => PyData.tuple [.int p.1, .int p.2]) NoC S1 :=
  PI.w (pi_items h hbase hline) fun σ H Q ⟨G, st, q⟩ => ⟨G, st, fun v G2 H2 st2 x r => by
    obtain ⟨a, o, rfl, ha⟩ := r.dD
    refine ⟨a, o, vD kvs, rfl, st2.sub.at_ ha, q _ G2 H2 st2 x trivial ?_⟩
    have hl : ∀ {tb : Tbs} {b : Bx tb} {G H : Hp} {σ : L2.St} {S : List Sl}, Ex G2 G → StOk X.K b G H σ S → H a = some (.frz o (.dK (vD kvs))) := fun x3 st3 => st3.sub.at_ (x3.at_ ha)
    refine ⟨fun b i G H σ S x3 st3 _ hi => ⟨hl x3 st3, by simpa using hi⟩, fun b G H σ S x3 st3 _ => ⟨hl x3 st3, by simp⟩, fun b i d G H σ S x H' x3 st3 _ hd y => ?_⟩
    obtain ⟨T, k, v, e1, e2, e3, e4⟩ := y
    subst e2; subst e4
    have x4 := st3.newEx (o := .tup [kV k, v]) e3
    refine ⟨_, st3.new e3, x4, ?_⟩
    rw [List.getElem?_map] at hd e1
    cases hq : kvs[i]? with
    | none => rw [hq] at hd; cases hd
    | some pr =>
      rw [hq] at hd e1
      cases hd
      cases e1
      exact .tup (.inl (.inl upd_same)) (.cons (.int _) (.cons (.int _) .nil))⟩
/-- for x, y in zip(t, u), two tuples -/
theorem I_zipT {elts : List Expr} {kk : Nat} {tpos : Pos} (hm : X.mg "zip" = none) (ha : E X b S e (.val (.tuple xs)) S1) (hb : E X b S1 f (.val (.tuple ys)) S2) (hg : Gl X "zip" := by rfl) (hs : starEach [e, f] X.env = (false, eval e X.env) :: starEach [f] X.env := by rfl) (hs2 : starEach [f] X.env = (false, eval f X.env) :: starEach [] X.env := by rfl) (hpl : (backTo pos (starEach [f] X.env)).any (·.1) = false := by rfl) :
    IT X b S (.Tuple elts kk tpos) (.Call (.Name "zip" p) [e, f] [] pos) ((xs.zip ys).map fun q => PyData.tuple [q.1, q.2]) NoC S2 :=
  PI.w (RZ.pi_zipA hg hm (A_cons ha (A_cons hb A_nil hs2) hs) hs hpl) fun σ H Q ⟨G, st, q⟩ => ⟨G, st, fun vs G2 H2 st2 x r => by
    cases r with
    | cons r1 rn =>
      cases rn with
      | cons r2 rn =>
      cases rn
      cases r1 with
      | @tup a us _ h1 t1 =>
      cases r2 with
      | @tup c ws _ h2 t2 =>
      refine ⟨a, c, us, ws, rfl, .inr ⟨st2.sub.sqT h1, st2.sub.sqT h2, q _ G2 H2 st2 x trivial ?_⟩⟩
      have hl : ∀ {tb : Tbs} {b : Bx tb} {G H : Hp} {σ : L2.St} {S : List Sl}, Ex G2 G → StOk X.K b G H σ S → SqT X.K H a us ∧ SqT X.K H c ws := fun x3 st3 => ⟨st3.sub.sqT (x3.sqT h1), st3.sub.sqT (x3.sqT h2)⟩
      have hz : ((xs.zip ys).map fun q => PyData.tuple [q.1, q.2]).length = min us.length ws.length := by rw [List.length_map, List.length_zip, t1.length, t2.length]
      refine ⟨fun b i G H σ S x3 st3 _ hi => ?_, fun b G H σ S x3 st3 _ => ⟨us, ws, (hl x3 st3).1, (hl x3 st3).2, by omega⟩, fun b i d G H σ S x H' x3 st3 _ hd y => ?_⟩
      · have h1' : i < us.length := by omega
        have h2' : i < ws.length := by omega
        exact ⟨us, ws, us[i], ws[i], (hl x3 st3).1, (hl x3 st3).2, List.getElem?_eq_getElem h1', List.getElem?_eq_getElem h2'⟩
      · obtain ⟨T, y1, y2, e1, e2, e3, e4, e5⟩ := y
        subst e1; subst e3
        rw [List.getElem?_map] at hd
        cases hq : (xs.zip ys)[i]? with
        | none => rw [hq] at hd; cases hd
        | some pr =>
          rw [hq] at hd
          cases hd
          obtain ⟨z1, z2⟩ := List.getElem?_zip_eq_some.mp hq
          obtain ⟨v1, hv1, rv1⟩ := t1.get z1
          obtain ⟨v2, hv2, rv2⟩ := t2.get z2
          rw [e4 us (hl x3 st3).1] at hv1
          rw [e5 ws (hl x3 st3).2] at hv2
          cases hv1
          cases hv2
          have x4 := st3.newEx (o := .tup [y1, y2]) e2
          exact ⟨_, st3.new e2, x4, .tup (.inl (.inl upd_same)) (.cons ((rv1.mono x3).mono x4) (.cons ((rv2.mono x3).mono x4) .nil))⟩⟩
/-- for i, x in enumerate(xs), xs a known list -/
theorem I_enumL {elts : List Expr} {kk : Nat} {tpos : Pos} (hm : X.mg "enumerate" = none) (ha : E X b S e (.val (.list xs)) S1) (hg : Gl X "enumerate" := by rfl) (hs : starEach [e] X.env = [(false, eval e X.env)] := by rfl) :
    IT X b S (.Tuple elts kk tpos) (.Call (.Name "enumerate" p) [e] [] pos) (xs.zipIdx.map fun q => PyData.tuple [.int (q.2 : Int), q.1]) NoC S1 :=
  PI.w (pi_enum hg hm (A_cons ha A_nil hs) hs) fun σ H Q ⟨G, st, q⟩ => ⟨G, st, fun vs G2 H2 st2 x r => by
    cases r with
    | cons r1 rn =>
      cases rn
      cases r1 with
      | @lst a us _ h1 t =>
      refine ⟨a, us, rfl, .inl (st2.sub.rd h1), q _ G2 H2 st2 x trivial ?_⟩
      have hl : ∀ {tb : Tbs} {b : Bx tb} {G H : Hp} {σ : L2.St} {S : List Sl}, Ex G2 G → StOk X.K b G H σ S → SqL X.K H a us := fun x3 st3 => .inl (st3.sub.rd (x3.rd h1))
      refine ⟨fun b i G H σ S x3 st3 _ hi => ?_, fun b G H σ S x3 st3 _ => ⟨us, hl x3 st3, by simp [t.length]⟩, fun b i d G H σ S x H' x3 st3 _ hd y => ?_⟩
      · have hi' : i < us.length := by rw [t.length]; simpa using hi
        exact ⟨us, us[i], hl x3 st3, by simp [hi']⟩
      · obtain ⟨y1, h3, h4⟩ := zipIdx_get hd
        obtain ⟨T, z, e1, e2, e3, e4⟩ := y
        subst e1; subst e3; subst h4
        obtain ⟨v, hv, rv⟩ := t.get h3
        rw [e4 us (hl x3 st3)] at hv
        cases hv
        have x4 := st3.newEx (o := .tup [.int (i : Nat), z]) e2
        exact ⟨_, st3.new e2, x4, .tup (.inl (.inl upd_same)) (.cons (.int _) (.cons ((rv.mono x3).mono x4) .nil))⟩⟩
end
end D

set_option Elab.async false
set_option linter.all false
set_option autoImplicit false
/-! Pk: chances as plain functions. -/
namespace D
open PySem PySem.Spec PyProof.Rows L2
/-- the weight of a dict by a function of its keys -/
def totalI (φ : Int → Int) (kvs : List (Int × Int)) : Int := (kvs.map fun p => φ p.1 * p.2).sum
def keysOk (kvs : List (Int × Int)) : Prop := (kvs.map (·.1)).Nodup
def addI (kvs : List (Int × Int)) (k d : Int) : List (Int × Int) := putI kvs k ((getI kvs k).getD 0 + d)
theorem any_key {kvs : List (Int × Int)} {k : Int} : (kvs.any fun p => decide (p.1 = k)) = true ↔ k ∈ kvs.map (·.1) := by
  rw [List.any_eq_true, List.mem_map]
  constructor
  · rintro ⟨p, hp, e⟩; exact ⟨p, hp, of_decide_eq_true e⟩
  · rintro ⟨p, hp, e⟩; exact ⟨p, hp, decide_eq_true e⟩
theorem putI_keys (kvs : List (Int × Int)) (k v : Int) : (putI kvs k v).map (·.1) = if k ∈ kvs.map (·.1) then kvs.map (·.1) else kvs.map (·.1) ++ [k] := by
  unfold putI
  by_cases c : k ∈ kvs.map (·.1)
  · rw [if_pos (any_key.mpr c), if_pos c, List.map_map]
    refine List.map_congr_left fun p _ => ?_
    show (if p.1 = k then (p.1, v) else p).1 = p.1
    split <;> rfl
  · rw [if_neg (fun z => c (any_key.mp z)), if_neg c, List.map_append]
    rfl
theorem putI_ok {kvs : List (Int × Int)} (h : keysOk kvs) (k v : Int) : keysOk (putI kvs k v) := by
  unfold keysOk at h ⊢
  rw [putI_keys]
  split
  · exact h
  · rename_i c
    refine List.nodup_append.mpr ⟨h, by simp, fun x hx y hy => ?_⟩
    rw [List.mem_singleton.mp hy]
    intro e
    subst e
    exact c hx
theorem putI_len (kvs : List (Int × Int)) (k v : Int) : (putI kvs k v).length ≤ kvs.length + 1 := by
  unfold putI
  split
  · rw [List.length_map]; exact Nat.le_succ _
  · rw [List.length_append]; exact Nat.le_refl _
theorem map_put_total (φ : Int → Int) (k v : Int) : ∀ {kvs : List (Int × Int)}, keysOk kvs → totalI φ (kvs.map fun p => if p.1 = k then (p.1, v) else p) = totalI φ kvs + (if k ∈ kvs.map (·.1) then φ k * (v - (getI kvs k).getD 0) else 0)
  | [], _ => by simp [totalI]
  | p :: kvs, h => by
    have h' := List.nodup_cons.mp h
    have ih := map_put_total φ k v (kvs := kvs) h'.2
    have e1 : ∀ q l, totalI φ (q :: l) = φ q.1 * q.2 + totalI φ l := fun q l => by simp [totalI]
    rw [List.map_cons, e1, e1, ih]
    by_cases c : p.1 = k
    · have hn : k ∉ kvs.map (·.1) := fun z => h'.1 (by rw [← c] at z; exact z)
      rw [if_neg hn, if_pos c, if_pos (by rw [List.map_cons, c]; exact List.mem_cons_self)]
      have e2 : getI (p :: kvs) k = some p.2 := by simp [getI, c]
      rw [e2]
      show φ p.1 * v + _ = _
      rw [c, Option.getD_some, Int.mul_sub]
      omega
    · rw [if_neg c]
      have e2 : getI (p :: kvs) k = getI kvs k := by simp [getI, c]
      rw [e2]
      by_cases d : k ∈ kvs.map (·.1)
      · rw [if_pos d, if_pos (by rw [List.map_cons]; exact List.mem_cons_of_mem _ d)]
        omega
      · rw [if_neg d, if_neg (by rw [List.map_cons]; intro z; rcases List.mem_cons.mp z with z | z; exact c z.symm; exact d z)]
        omega
theorem addI_total (φ : Int → Int) {kvs : List (Int × Int)} (h : keysOk kvs) (k d : Int) : totalI φ (addI kvs k d) = totalI φ kvs + φ k * d := by
  unfold addI putI
  by_cases c : k ∈ kvs.map (·.1)
  · rw [if_pos (any_key.mpr c), map_put_total φ k _ h, if_pos c]
    congr 1
    rw [show (getI kvs k).getD 0 + d - (getI kvs k).getD 0 = d by omega]
  · rw [if_neg (fun z => c (any_key.mp z))]
    have e : getI kvs k = none := by
      unfold getI
      rw [Option.map_eq_none_iff, List.find?_eq_none]
      intro p hp z
      exact c (List.mem_map.mpr ⟨p, hp, of_decide_eq_true z⟩)
    rw [e]
    unfold totalI
    rw [List.map_append, List.sum_append]
    simp
/-- the load up to which all is weighed, with one weight more -/
def growI (r x : Int) : Int := if x ≤ r + 1 then r + x else r
def turnI (x t b : Int) (later : List (Int × Int)) (p : Int × Int) : List (Int × Int) := addI (addI later p.1 (p.2 * t)) (growI p.1 x) (p.2 * (b - t))
def stepI (found : List (Int × Int)) (q : Int × (Int × Int)) : List (Int × Int) := found.foldl (turnI q.1 q.2.1 q.2.2) []
def statesI (qs : List (Int × (Int × Int))) : List (Int × Int) := qs.foldl stepI [(0, 1)]
def wholeI (qs : List (Int × (Int × Int))) : Int := qs.foldl (fun w q => w * q.2.2) 1
theorem addI_ok {kvs : List (Int × Int)} (h : keysOk kvs) (k d : Int) : keysOk (addI kvs k d) := putI_ok h _ _
theorem foldl_turn (φ : Int → Int) (x t b : Int) : ∀ (found later : List (Int × Int)), keysOk later → keysOk (found.foldl (turnI x t b) later) ∧ (found.foldl (turnI x t b) later).length ≤ later.length + 2 * found.length ∧
    totalI φ (found.foldl (turnI x t b) later) = totalI φ later + totalI (fun k => φ k * t + φ (growI k x) * (b - t)) found
  | [], later, h => ⟨h, Nat.le_refl _, by simp [totalI]⟩
  | p :: found, later, h => by
    have h1 := addI_ok h p.1 (p.2 * t)
    have h2 := addI_ok h1 (growI p.1 x) (p.2 * (b - t))
    obtain ⟨i1, i2, i3⟩ := foldl_turn φ x t b found (turnI x t b later p) h2
    have l1 := putI_len later p.1 ((getI later p.1).getD 0 + p.2 * t)
    have l2 := putI_len (addI later p.1 (p.2 * t)) (growI p.1 x) ((getI (addI later p.1 (p.2 * t)) (growI p.1 x)).getD 0 + p.2 * (b - t))
    have l3 : (turnI x t b later p).length ≤ later.length + 2 := by
      unfold turnI
      show (putI (addI later p.1 (p.2 * t)) _ _).length ≤ _
      have : (addI later p.1 (p.2 * t)).length ≤ later.length + 1 := l1
      omega
    refine ⟨i1, by show (found.foldl _ (turnI x t b later p)).length ≤ _; rw [List.length_cons]; omega, ?_⟩
    show totalI φ (found.foldl _ (turnI x t b later p)) = _
    rw [i3]
    have e1 : totalI φ (turnI x t b later p) = totalI φ later + φ p.1 * (p.2 * t) + φ (growI p.1 x) * (p.2 * (b - t)) := by
      unfold turnI
      rw [addI_total φ h1, addI_total φ h]
    have e2 : totalI (fun k => φ k * t + φ (growI k x) * (b - t)) (p :: found) = (φ p.1 * t + φ (growI p.1 x) * (b - t)) * p.2 + totalI (fun k => φ k * t + φ (growI k x) * (b - t)) found := by simp [totalI]
    rw [e1, e2, Int.add_mul]
    have e3 : φ p.1 * (p.2 * t) = φ p.1 * t * p.2 := by rw [Int.mul_comm p.2 t, Int.mul_assoc]
    have e4 : φ (growI p.1 x) * (p.2 * (b - t)) = φ (growI p.1 x) * (b - t) * p.2 := by rw [Int.mul_comm p.2 (b - t), Int.mul_assoc]
    rw [e3, e4]
    omega
end D

set_option Elab.async false
set_option linter.all false
set_option autoImplicit false
/-! Pk2: the states' weights are the sums over all losses. -/
namespace D
open PySem PySem.Spec PyProof.Rows L2
theorem reach_safe {ls : List Int} (hp : ls.Pairwise (· ≤ ·)) (h0 : ∀ x ∈ ls, 0 ≤ x) : reachV ls = safeOf ls 0 := by
  have h := safeL_eq (l := 0) hp h0 (Nat.zero_le _)
  have hm : [] ∈ lossesV ls.length 0 := by
    have h1 : gapLoss ls.length 0 0 ∈ lossesV ls.length 0 := mem_losses.mpr ⟨filter_pow _ _, by
      have := gapLoss_len 0 0 ls.length
      rwa [Nat.zero_add, Nat.zero_add] at this⟩
    have h2 : gapLoss ls.length 0 0 = [] := List.eq_nil_of_length_eq_zero (mem_losses.mp h1).2
    rwa [h2] at h1
  have hl : leftV ls [] = ls := by
    unfold leftV keepN
    rw [List.filter_eq_self.mpr (by intro i _; simp)]
    exact map_getD ls
  rw [← h]
  unfold safeL
  refine (minI_eq (List.mem_map.mpr ⟨[], hm, by rw [hl]⟩) fun y hy => ?_).symm
  obtain ⟨L, hL, rfl⟩ := List.mem_map.mp hy
  rw [List.eq_nil_of_length_eq_zero (mem_losses.mp hL).2, hl]
  exact Int.le_refl _
theorem reach_snoc {ls : List Int} {x : Int} (hp : (ls ++ [x]).Pairwise (· ≤ ·)) (h0 : ∀ y ∈ ls ++ [x], 0 ≤ y) : reachV (ls ++ [x]) = growI (reachV ls) x := by
  have p := List.pairwise_append.mp hp
  have h0' : ∀ y ∈ ls, 0 ≤ y := fun y hy => h0 y (List.mem_append_left _ hy)
  rw [reach_safe hp h0, reach_safe p.1 h0']
  obtain ⟨g1, g2, g3⟩ := gapOf_spec ls 0
  have tk : ∀ m, m ≤ ls.length → (ls ++ [x]).take m = ls.take m := fun m hm => List.take_append_of_le_length hm
  have gd : ∀ m, m < ls.length → (ls ++ [x]).getD m 0 = ls.getD m 0 := fun m hm => by
    rw [List.getD_eq_getElem?_getD, List.getD_eq_getElem?_getD, List.getElem?_append_left hm]
  have gx : (ls ++ [x]).getD ls.length 0 = x := by
    rw [List.getD_eq_getElem?_getD, List.getElem?_append_right (Nat.le_refl _)]
    simp
  have ll : (ls ++ [x]).length = ls.length + 1 := by simp
  simp only [Nat.add_zero, Nat.sub_zero] at g1 g2 g3
  unfold growI
  by_cases c : gapOf ls 0 < ls.length
  · have q := g3 c
    have e : gapOf (ls ++ [x]) 0 = gapOf ls 0 := gap_one (by rw [ll]; omega) (fun m hm => by rw [Nat.add_zero, gd m (by omega), tk m (by omega)]; exact g2 m hm) (fun _ => by rw [Nat.add_zero, gd _ c, tk _ (by omega)]; exact q)
    have hx : ls.getD (gapOf ls 0) 0 ≤ x := by
      rw [List.getD_eq_getElem?_getD, List.getElem?_eq_getElem c]
      exact p.2.2 _ (List.getElem_mem c) x (List.mem_singleton.mpr rfl)
    unfold safeOf at *
    rw [e, tk _ (by omega), if_neg (by omega)]
  · have eg : gapOf ls 0 = ls.length := by omega
    have es : safeOf ls 0 = ls.sum := by unfold safeOf; rw [eg, List.take_length]
    rw [es]
    have pre : ∀ m, m < ls.length → (ls ++ [x]).getD (m + 0) 0 ≤ ((ls ++ [x]).take m).sum + 1 := fun m hm => by rw [Nat.add_zero, gd m hm, tk m (by omega)]; exact g2 m (by omega)
    by_cases d : x ≤ ls.sum + 1
    · have e : gapOf (ls ++ [x]) 0 = ls.length + 1 := gap_one (by rw [ll]; omega) (fun m hm => by
        by_cases k : m < ls.length
        · exact pre m k
        · have : m = ls.length := by omega
          subst this
          rw [Nat.add_zero, gx, tk _ (Nat.le_refl _), List.take_length]
          exact d) (fun h => by rw [ll] at h; omega)
      unfold safeOf
      rw [e, if_pos d, List.take_of_length_le (by rw [ll]; omega)]
      simp
    · have e : gapOf (ls ++ [x]) 0 = ls.length := gap_one (by rw [ll]; omega) pre (fun _ => by
        rw [Nat.add_zero, gx, tk _ (Nat.le_refl _), List.take_length]
        omega)
      unfold safeOf
      rw [e, if_neg d, tk _ (Nat.le_refl _), List.take_length]
/-- the weight of a loss -/
def waysI (cs : List (Int × Int)) (L : List Int) : Int := cs.zipIdx.foldl (fun w q => w * (if (q.2 : Int) ∈ L then q.1.1 else q.1.2 - q.1.1)) 1
theorem waysI_snoc (cs : List (Int × Int)) (c : Int × Int) (L : List Int) : waysI (cs ++ [c]) L = waysI cs L * (if (cs.length : Int) ∈ L then c.1 else c.2 - c.1) := by
  unfold waysI
  rw [List.zipIdx_append, List.foldl_append]
  simp
theorem waysI_more (cs : List (Int × Int)) (L : List Int) (hL : L ∈ powV cs.length) : waysI cs (L ++ [(cs.length : Int)]) = waysI cs L := by
  unfold waysI
  have key : ∀ (l : List ((Int × Int) × Nat)) (w : Int), (∀ q ∈ l, q.2 < cs.length) → l.foldl (fun w q => w * (if (q.2 : Int) ∈ L ++ [(cs.length : Int)] then q.1.1 else q.1.2 - q.1.1)) w = l.foldl (fun w q => w * (if (q.2 : Int) ∈ L then q.1.1 else q.1.2 - q.1.1)) w := by
    intro l
    induction l with
    | nil => intro w _; rfl
    | cons q l ih =>
      intro w h
      have hq := h q List.mem_cons_self
      have e : ((q.2 : Int) ∈ L ++ [(cs.length : Int)]) ↔ (q.2 : Int) ∈ L := by
        rw [List.mem_append, List.mem_singleton]
        constructor
        · rintro (z | z)
          · exact z
          · omega
        · exact .inl
      rw [List.foldl_cons, List.foldl_cons, ih _ fun q hq => h q (List.mem_cons_of_mem _ hq)]
      simp only [e]
  refine key _ _ fun q hq => ?_
  have := List.mem_zipIdx hq
  omega
theorem keepN_snoc (n : Nat) (L : List Int) : keepN (n + 1) L = keepN n L ++ (if (n : Int) ∈ L then [] else [n]) := by
  unfold keepN
  rw [List.range_succ, List.filter_append]
  by_cases c : (n : Int) ∈ L <;> simp [c]
theorem leftV_keep (ns : List Int) (x : Int) (L : List Int) (h : (ns.length : Int) ∉ L) : leftV (ns ++ [x]) L = leftV ns L ++ [x] := by
  unfold leftV
  rw [List.length_append, List.length_singleton, keepN_snoc, if_neg h, List.map_append]
  congr 1
  · refine List.map_congr_left fun i hi => ?_
    have := List.mem_range.mp (List.mem_filter.mp hi).1
    rw [List.getD_eq_getElem?_getD, List.getD_eq_getElem?_getD, List.getElem?_append_left this]
  · show [(ns ++ [x]).getD ns.length 0] = [x]
    rw [List.getD_eq_getElem?_getD, List.getElem?_append_right (Nat.le_refl _)]
    simp
theorem leftV_lose (ns : List Int) (x : Int) (L : List Int) : leftV (ns ++ [x]) (L ++ [(ns.length : Int)]) = leftV ns L := by
  unfold leftV
  rw [List.length_append, List.length_singleton, keepN_snoc, if_pos (List.mem_append_right _ (List.mem_singleton.mpr rfl)), List.append_nil]
  have e : keepN ns.length (L ++ [(ns.length : Int)]) = keepN ns.length L := List.filter_congr fun i hi => by
    have := List.mem_range.mp hi
    congr 1
    rw [Bool.eq_iff_iff, decide_eq_true_iff, decide_eq_true_iff, List.mem_append, List.mem_singleton]
    constructor
    · rintro (z | z)
      · exact z
      · omega
    · exact .inl
  rw [e]
  refine List.map_congr_left fun i hi => ?_
  have := List.mem_range.mp (List.mem_filter.mp hi).1
  rw [List.getD_eq_getElem?_getD, List.getD_eq_getElem?_getD, List.getElem?_append_left this]
/-- the sum over all losses -/
def allI (φ : Int → Int) (ns : List Int) (cs : List (Int × Int)) : Int := ((powV ns.length).map fun L => waysI cs L * φ (reachV (leftV ns L))).sum
theorem sum_map_add {α : Type} (f g : α → Int) : ∀ l : List α, (l.map fun x => f x + g x).sum = (l.map f).sum + (l.map g).sum
  | [] => rfl
  | x :: l => by
    have := sum_map_add f g l
    simp only [List.map_cons, List.sum_cons]
    omega
theorem states_all : ∀ (k : Nat) (ns : List Int) (cs : List (Int × Int)), ns.length = k → cs.length = k → ns.Pairwise (· ≤ ·) → (∀ x ∈ ns, 0 ≤ x) → ∀ φ : Int → Int, totalI φ (statesI (ns.zip cs)) = allI φ ns cs
  | 0, ns, cs, h1, h2, _, _, φ => by
    rw [List.eq_nil_of_length_eq_zero h1, List.eq_nil_of_length_eq_zero h2]
    have e : reachV (leftV [] []) = 0 := by decide
    simp [statesI, totalI, allI, powV, waysI, e]
  | k + 1, ns, cs, h1, h2, hp, h0, φ => by
    obtain ⟨ns', x, rfl⟩ : ∃ l x, ns = l ++ [x] := ⟨_, _, (List.dropLast_concat_getLast (fun z => by rw [z] at h1; cases h1)).symm⟩
    obtain ⟨cs', c, rfl⟩ : ∃ l x, cs = l ++ [x] := ⟨_, _, (List.dropLast_concat_getLast (fun z => by rw [z] at h2; cases h2)).symm⟩
    have l1 : ns'.length = k := by simpa using h1
    have l2 : cs'.length = k := by simpa using h2
    have hp' := (List.pairwise_append.mp hp).1
    have ih := states_all k ns' cs' l1 l2 hp' (fun y hy => h0 y (List.mem_append_left _ hy))
    have ez : (ns' ++ [x]).zip (cs' ++ [c]) = ns'.zip cs' ++ [(x, c)] := by rw [List.zip_append (by rw [l1, l2])]; rfl
    rw [ez]
    unfold statesI
    rw [List.foldl_append]
    show totalI φ (stepI (statesI (ns'.zip cs')) (x, c)) = _
    unfold stepI
    obtain ⟨_, _, e3⟩ := foldl_turn φ x c.1 c.2 (statesI (ns'.zip cs')) [] List.nodup_nil
    show totalI φ (List.foldl (turnI x c.1 c.2) [] _) = _
    rw [e3, ih]
    unfold allI
    have ep : powV (ns' ++ [x]).length = powV ns'.length ++ (powV ns'.length).map fun t => t ++ [(ns'.length : Int)] := by rw [List.length_append]; rfl
    rw [ep, List.map_append, List.sum_append, List.map_map]
    have z0 : totalI φ [] = 0 := rfl
    rw [z0, Int.zero_add, Int.add_comm, ← sum_map_add]
    congr 1
    refine List.map_congr_left fun L hL => ?_
    have hn : (ns'.length : Int) ∉ L := fun z => by have := powV_lt _ L hL _ z; omega
    have hn2 : (cs'.length : Int) ∉ L := by rw [l2, ← l1]; exact hn
    have hL2 : L ∈ powV cs'.length := by rw [l2, ← l1]; exact hL
    have er : reachV (leftV ns' L ++ [x]) = growI (reachV (leftV ns' L)) x := by
      have hs : (leftV ns' L ++ [x]).Sublist (ns' ++ [x]) := (leftV_sub ns' L).append (List.Sublist.refl _)
      exact reach_snoc (hp.sublist hs) fun y hy => h0 y (hs.subset hy)
    show _ = waysI (cs' ++ [c]) (L ++ [(ns'.length : Int)]) * φ (reachV (leftV (ns' ++ [x]) (L ++ [(ns'.length : Int)]))) + waysI (cs' ++ [c]) L * φ (reachV (leftV (ns' ++ [x]) L))
    rw [leftV_keep ns' x L hn, leftV_lose, er, waysI_snoc, waysI_snoc, if_neg hn2, show (ns'.length : Int) = (cs'.length : Int) by rw [l1, l2], if_pos (List.mem_append_right _ (List.mem_singleton.mpr rfl)), waysI_more cs' L hL2, Int.mul_add]
    congr 1
    · rw [Int.mul_comm (φ _) c.1, Int.mul_assoc]
    · rw [Int.mul_comm (φ _) (c.2 - c.1), Int.mul_assoc]
end D

set_option Elab.async false
set_option linter.all false
set_option maxRecDepth 100000
set_option maxHeartbeats 1000000
set_option autoImplicit false
/-! Dl11: reversed of a tuple, sorted(t, reverse=True). -/
namespace SK2
open PySem PySem.Spec PyProof.Rows L2
section
variable {prog : Program} {w : World} {A : Around} {E : Value → Shared → Prop} {s : Shared}
/-- sorted(x, reverse=b), what collects to us -/
theorem sorted_colR {x : Value} {us : List Value} {b : Bool} {lt2v : Value → Value → Bool} {Q : Value → Shared → Prop} (W : SrtO.Swo lt2v) (hz : us.length ≤ sizeLine)
    (hcol : ∀ Q' : List Value → Shared → Prop, Q' us { s with heap := (s.heap.push (seqObj "list" #[] 0)).update s.heap.objs.size (Obj.mapSeq (· ++ us.toArray)) } → wpAny (model prog w) A.in1 (collect x) Q' E s)
    (hS : 2 ≤ us.length → ∀ (h1 : Heap) (a : Addr), SrtO.SortableO prog w A.in1.in1 { s with heap := h1 } a us lt2v)
    (h : ∀ out : List Value, SrtO.Srtd lt2v out → SrtO.Stb lt2v out (if b = true then us.reverse else us) → Q (.ref (s.heap.objs.size + 1)) { s with heap := sortedAll s.heap us (if b = true then out.toArray.reverse else out.toArray) }) :
    wpAny (model prog w) A (call (.builtin "sorted") [x] [(Str.ofString "reverse", .bool b)]) Q E s := by
  refine PyProof.Rows.call_function_entry_kw kind_sorted plain_sorted entry_sorted
    (PyProof.Rows.args_sorted_rev _ _) ?_
  unfold Builtin.«sorted»
  refine wpAny_bind (m := checkCount "sorted" 1 1 _)
    (wpAny_pure ?_)
  refine wpAny_bind (hcol _ ?_)
  refine wpAny_bind (wpAny_newList ?_ hz)
  have size1 : ((s.heap.push (seqObj "list" #[] 0)).update s.heap.objs.size (Obj.mapSeq (· ++ us.toArray))).objs.size = s.heap.objs.size + 1 := by
    rw [Heap.size_update, size_push']
  have obj1 : (((s.heap.push (seqObj "list" #[] 0)).update s.heap.objs.size (Obj.mapSeq (· ++ us.toArray))).push (seqObj "list" us.toArray 0)).get? (s.heap.objs.size + 1) = some (seqObj "list" us.toArray 0) := by
    rw [← size1]; exact Heap.get?_push_size _ rfl
  show wpAny _ _ _ _ _ { s with heap := ((s.heap.push (seqObj "list" #[] 0)).update s.heap.objs.size (Obj.mapSeq (· ++ us.toArray))).push (seqObj "list" us.toArray 0) }
  rw [size1]
  refine wpAny_bind (wpAny_holding (PyProof.Rows.wpAny_call_entry_kw slot_list_sort ⟨_, obj1, rfl⟩ entry_list_sort
    (SrtR.list_sort_ordR W obj1 hz (fun h2 => hS h2 _ _) fun out hs hb => ⟨_, rfl, ?_⟩) (PyProof.Rows.args_list_sort_rev _ _)))
  exact wpAny_pure ⟨_, rfl, h out hs hb⟩
end
def rSortedTR (K : PySem.W.Frag) : List V → List V → Hp → VK → Prop := fun vs zs H Q => ∃ (a : Addr) (ns : List Int), vs = [V.ref a] ∧ zs = [V.bl true] ∧ SqT K H a (ns.map V.int) ∧
  ∀ (ms : List Int) (p : Addr), ms.Perm ns → ms.Pairwise (· ≥ ·) → H p = none → Q (.ref p) (upd H p (.lst (ms.map V.int)))
theorem cr_sortedTR {X : Cx} : CallRK X (.builtin "sorted") [Str.ofString "reverse"] (rSortedTR X.K) := by
  intro pins s σ H vs zs us ws Q I r rz h
  obtain ⟨a, ns, rfl, rfl, hs, q⟩ := h
  obtain ⟨its, rv, ht, hz⟩ := I.tuple hs
  obtain rfl := Vals.ref1 r
  obtain ⟨w1, rfl, e1⟩ := vals1 rz
  obtain rfl : w1 = Value.bool true := e1
  have hi := rv.ints
  have hlen := rv.length
  refine sorted_colR SrtO.swo_int (by omega) (fun Q' h' => collect_tup ht (by omega) h') (fun h2 h1 a' => SrtO.ints_sortable hi h2) fun out h1 h2 => ?_
  obtain ⟨ms, k1, k2, k3⟩ := SrtR.ints_outR (b := true) hi h1 h2
  obtain ⟨ep, he⟩ := PyProof.Rows.sortedAll_at s.heap its out.toArray.reverse
  have hfit : (ms.map V.int).length ≤ sizeLine := by
    rw [List.length_map, k2.length_eq]
    rw [List.length_map] at hz
    exact hz
  have e0 : (out.toArray.reverse.toList).toArray = out.toArray.reverse := by rw [Array.toArray_toList]
  exact ⟨.ref _, upd H (s.heap.objs.size + 1) (.lst (ms.map V.int)), I.laid (t' := s.toks) (fun _ _ => PyProof.Rows.sortedAll_old) (Nat.le_succ _) ⟨hfit, _, ep, vals_of_ints k1, by rw [if_pos rfl, e0]; exact he⟩, rfl, q _ _ k2 k3 (I.hok.fresh (Nat.le_succ _))⟩
end SK2
namespace D
open PySem PySem.Spec PyProof.Rows L2
section
variable {X : Cx} {tb : Tbs} {b : Bx tb} {S S1 : List Sl} {e tg : Expr} {ds : List PyData} {pos p p2 kp : Pos} {ns : List Int} {j : Nat}
theorem rev_one {ns ms : List Int} (h1 : ms.Perm ns) (h2 : ms.Pairwise (· ≥ ·)) : ms = (sortI ns).reverse := by
  have h3 : ms.reverse = sortI ns := sortI_one ((List.reverse_perm ms).trans h1) (by rw [List.pairwise_reverse]; exact h2)
  rw [← h3, List.reverse_reverse]
/-- sorted(t, reverse=True) -/
theorem E_sortedTR (hm : X.mg "sorted" = none) (ha : E X b S e (.val (dT ns)) S1) (hg : Gl X "sorted" := by rfl) (hs : starEach [e] X.env = (false, eval e X.env) :: starEach [] X.env := by rfl)
    (he : backTo pos (starEach [e] X.env) = (false, eval e X.env) :: backTo pos (starEach [] X.env) := by rfl) (hpl : (backTo pos (starEach [e] X.env)).any (·.1) = false := by rfl)
    (hall : (backToKw pos (keywordEach [⟨some "reverse", .Constant (.bool true) j p2, kp⟩] X.env)).all (·.1.isSome) = true := by rfl) (hnone : (backToKw pos (keywordEach [⟨some "reverse", .Constant (.bool true) j p2, kp⟩] X.env)).any (·.1.isNone) = false := by rfl) (hks : (backToKw pos (keywordEach [⟨some "reverse", .Constant (.bool true) j p2, kp⟩] X.env)).filterMap (·.1) = [Str.ofString "reverse"] := by rfl) :
    E X b S (.Call (.Name "sorted" p) [e] [⟨some "reverse", .Constant (.bool true) j p2, kp⟩] pos) (.new ((sortI ns).reverse.map .int)) S1 :=
  PE.w (pe_callBK SK2.cr_sortedTR hg hm bb_sorted (A_cons ha A_nil hs) (pk_cons pe_bl pk_nil) (by decide) (by decide) he hpl hall hnone hks) fun σ H Q ⟨G, st, q⟩ => ⟨G, st, fun vs G2 H2 st2 x r => by
    cases r with
    | cons r1 rn =>
      cases rn
      cases r1 with
      | tup h1 t =>
        rw [t.ints] at h1
        refine ⟨_, ns, rfl, rfl, st2.sub.sqT h1, fun ms p h2 h3 hp => ?_⟩
        rw [rev_one h2 h3]
        have z := st2.newL hp (RpA.ofInts (K := X.K) (G := G2) (sortI ns).reverse)
        exact q _ _ _ z.1 x z.2⟩
/-- for x in reversed(t), a tuple -/
theorem I_revT (hm : X.mg "reversed" = none) (ha : E X b S e (.val (.tuple ds)) S1) (hg : Gl X "reversed" := by rfl) (hs : starEach [e] X.env = (false, eval e X.env) :: starEach [] X.env := by rfl) :
    IT X b S tg (.Call (.Name "reversed" p) [e] [] pos) ds.reverse NoC S1 :=
  PI.w (RT.pi_revA hg hm ha hs) fun σ H Q ⟨G, st, q⟩ => ⟨G, st, fun v G2 H2 st2 x r => by
    cases r with
    | @tup a vs _ h1 t =>
      refine ⟨a, vs, rfl, .inr ⟨st2.sub.sqT h1, q _ G2 H2 st2 x trivial ?_⟩⟩
      have hl : ∀ {tb : Tbs} {b : Bx tb} {G H : Hp} {σ : L2.St} {S : List Sl}, Ex G2 G → StOk X.K b G H σ S → SqT X.K H a vs := fun x3 st3 => st3.sub.sqT (x3.sqT h1)
      have hz := t.length
      refine ⟨fun b i G H σ S x3 st3 _ hi => ?_, fun b G H σ S x3 st3 _ => ?_, fun b i d G H σ S x H' x3 st3 _ hd y => ?_⟩
      · rw [List.length_reverse] at hi
        have hi' : vs.length - 1 - i < vs.length := by omega
        exact ⟨by omega, vs, vs[vs.length - 1 - i], hl x3 st3, List.getElem?_eq_getElem hi'⟩
      · show vs.length ≤ ds.reverse.length
        rw [List.length_reverse]; omega
      · obtain ⟨e1, e2⟩ := y
        subst e1
        have hi := (List.getElem?_eq_some_iff.mp hd).1
        rw [List.length_reverse] at hi
        rw [List.getElem?_reverse hi] at hd
        obtain ⟨u, hu, ru⟩ := t.get hd
        rw [← hz, e2 vs (hl x3 st3)] at hu
        cases hu
        exact ⟨G, st3, Ex.refl G, ru.mono x3⟩⟩
end
end D

set_option Elab.async false
set_option linter.all false
set_option autoImplicit false
/-! Pw: losses judged, what is left, the way of weighing. -/
namespace D
open PySem
theorem cut_1 {α : Type} (xs : List α) : cut xs (some 1) none = xs.drop 1 := by
  cases xs with
  | nil => simp [cut]
  | cons x xs => exact cut_from (x :: xs) 1 (by simp)
def ltD : PyData → PyData → Bool
  | .int a, .int b => decide (a < b)
  | _, _ => false
/-- is_loss -/
def lossB (n : Nat) : PyData → Bool
  | .tuple xs => xs.all (fun d => numD d 0 ((n : Int) - 1)) && (xs.zip (xs.drop 1)).all fun q => ltD q.1 q.2
  | _ => false
structure LossOk (n : Nat) (L : List Int) : Prop where
  rng : ∀ x ∈ L, 0 ≤ x ∧ x < n
  up : L.Pairwise (· < ·)
theorem nums_of {n : Int} : ∀ {xs : List PyData}, (xs.all fun d => numD d 0 (n - 1)) = true → ∃ L : List Int, xs = L.map PyData.int ∧ ∀ x ∈ L, 0 ≤ x ∧ x < n
  | [], _ => ⟨[], rfl, fun x h => by cases h⟩
  | d :: xs, h => by
    rw [List.all_cons, Bool.and_eq_true] at h
    obtain ⟨h1, h2⟩ := h
    obtain ⟨L, rfl, hL⟩ := nums_of h2
    cases d with
    | int k =>
      simp only [numD, Bool.and_eq_true, decide_eq_true_eq] at h1
      refine ⟨k :: L, rfl, fun x hx => ?_⟩
      rcases List.mem_cons.mp hx with rfl | hx
      · omega
      · exact hL x hx
    | _ => cases h1
theorem zip_up : ∀ {L : List Int}, (((L.map PyData.int).zip ((L.map PyData.int).drop 1)).all fun q => ltD q.1 q.2) = true ↔ L.Pairwise (· < ·)
  | [] => by simp
  | [x] => by simp
  | x :: y :: L => by
    have ih := zip_up (L := y :: L)
    have e : (((x :: y :: L).map PyData.int).zip (((x :: y :: L).map PyData.int).drop 1)).all (fun q => ltD q.1 q.2) = (decide (x < y) && (((y :: L).map PyData.int).zip (((y :: L).map PyData.int).drop 1)).all fun q => ltD q.1 q.2) := rfl
    rw [e, Bool.and_eq_true, ih, decide_eq_true_eq, List.pairwise_cons (l := y :: L)]
    constructor
    · rintro ⟨h1, h2⟩
      refine ⟨fun z hz => ?_, h2⟩
      rcases List.mem_cons.mp hz with rfl | hz
      · exact h1
      · have := (List.pairwise_cons.mp h2).1 z hz
        omega
    · rintro ⟨h1, h2⟩
      exact ⟨h1 y List.mem_cons_self, h2⟩
theorem lossB_ints {n : Nat} {L : List Int} : lossB n (dT L) = true ↔ LossOk n L := by
  show ((L.map PyData.int).all _ && _) = true ↔ _
  rw [Bool.and_eq_true, zip_up, List.all_map, List.all_eq_true]
  constructor
  · rintro ⟨h1, h2⟩
    refine ⟨fun x hx => ?_, h2⟩
    have := h1 x hx
    simp only [Function.comp, numD, Bool.and_eq_true, decide_eq_true_eq] at this
    omega
  · rintro ⟨h1, h2⟩
    refine ⟨fun x hx => ?_, h2⟩
    have := h1 x hx
    simp only [Function.comp, numD, Bool.and_eq_true, decide_eq_true_eq]
    omega
theorem lossB_is {n : Nat} {d : PyData} (h : lossB n d = true) : ∃ L : List Int, d = dT L ∧ LossOk n L := by
  cases d with
  | tuple xs =>
    have h' : (xs.all (fun d => numD d 0 ((n : Int) - 1)) && (xs.zip (xs.drop 1)).all fun q => ltD q.1 q.2) = true := h
    rw [Bool.and_eq_true] at h'
    obtain ⟨L, rfl, hL⟩ := nums_of h'.1
    exact ⟨L, rfl, lossB_ints.mp h⟩
  | _ => cases h
theorem left_enum : ∀ (k : Nat) (ns : List Int) (L : List Int), ns.length = k → ((ns.zipIdx.filter fun q => !decide ((q.2 : Int) ∈ L)).map (·.1)) = leftV ns L
  | 0, ns, L, h => by
    rw [List.eq_nil_of_length_eq_zero h]
    rfl
  | k + 1, ns, L, h => by
    obtain ⟨ms, x, rfl⟩ : ∃ l x, ns = l ++ [x] := ⟨_, _, (List.dropLast_concat_getLast (fun z => by rw [z] at h; cases h)).symm⟩
    have hl : ms.length = k := by simpa using h
    have ih := left_enum k ms L hl
    have e : leftV (ms ++ [x]) L = leftV ms L ++ (if (ms.length : Int) ∈ L then [] else [x]) := by
      by_cases c : (ms.length : Int) ∈ L
      · rw [if_pos c, List.append_nil]
        unfold leftV
        rw [List.length_append, List.length_singleton, keepN_snoc, if_pos c, List.append_nil]
        refine List.map_congr_left fun i hi => ?_
        have hi' : i < ms.length := List.mem_range.mp (List.mem_filter.mp hi).1
        rw [List.getD_eq_getElem?_getD, List.getD_eq_getElem?_getD, List.getElem?_append_left hi']
      · rw [if_neg c, leftV_keep ms x L c]
    rw [e, List.zipIdx_append, List.filter_append, List.map_append, ih]
    congr 1
    simp only [List.zipIdx_cons, List.zipIdx_nil, Nat.zero_add]
    by_cases c : (ms.length : Int) ∈ L <;> simp [c]
/-- one weight tried -/
def tryW (st : List Int × Int) (x : Int) : List Int × Int := if x ≤ st.2 then (st.1 ++ [x], st.2 - x) else st
def weighL (ws : List Int) (load : Int) : List Int × Int := ws.foldl tryW ([], load)
def weighD (ws : List Int) (load : Int) : PyData := if (weighL ws.reverse load).2 = 0 then dT (weighL ws.reverse load).1 else .none
theorem weigh_len (ws : List Int) (st : List Int × Int) : (ws.foldl tryW st).1.length ≤ st.1.length + ws.length := by
  induction ws generalizing st with
  | nil => simp
  | cons x ws ih =>
    have h1 := ih (tryW st x)
    have h2 : (tryW st x).1.length ≤ st.1.length + 1 := by
      unfold tryW; split <;> simp
    rw [List.foldl_cons, List.length_cons]
    omega
end D
namespace D
open PySem
theorem greedy : ∀ (k : Nat) (ls : List Int), ls.length = k → ls.Pairwise (· ≤ ·) → (∀ x ∈ ls, 0 ≤ x) → ∀ (load : Int) (acc : List Int), 0 ≤ load → load ≤ reachV ls →
    ∃ t : List Int, ls.reverse.foldl tryW (acc, load) = (acc ++ t, 0) ∧ t.sum = load ∧ t.Sublist ls.reverse
  | 0, ls, h, _, _, load, acc, l0, l1 => by
    rw [List.eq_nil_of_length_eq_zero h] at l1 ⊢
    have e : reachV [] = 0 := by decide
    rw [e] at l1
    have e0 : load = 0 := by omega
    subst e0
    exact ⟨[], by simp, rfl, List.Sublist.refl _⟩
  | k + 1, ls, h, hp, h0, load, acc, l0, l1 => by
    obtain ⟨ms, x, rfl⟩ : ∃ l x, ls = l ++ [x] := ⟨_, _, (List.dropLast_concat_getLast (fun z => by rw [z] at h; cases h)).symm⟩
    have hl : ms.length = k := by simpa using h
    have hp' := (List.pairwise_append.mp hp).1
    have h0' : ∀ y ∈ ms, 0 ≤ y := fun y hy => h0 y (List.mem_append_left _ hy)
    have hr := reach_snoc hp h0
    have r0 := (reachV_spec ms).1
    rw [hr] at l1
    unfold growI at l1
    rw [List.reverse_append, List.reverse_singleton, List.singleton_append, List.foldl_cons]
    by_cases c : x ≤ load
    · have e : tryW (acc, load) x = (acc ++ [x], load - x) := by
        unfold tryW; rw [if_pos c]
      have l2 : load - x ≤ reachV ms := by
        split at l1 <;> omega
      obtain ⟨t, t1, t2, t3⟩ := greedy k ms hl hp' h0' (load - x) (acc ++ [x]) (by omega) l2
      refine ⟨x :: t, ?_, ?_, t3.cons₂ x⟩
      · rw [e, t1, List.append_assoc, List.singleton_append]
      · rw [List.sum_cons, t2]; omega
    · have e : tryW (acc, load) x = (acc, load) := by
        unfold tryW; rw [if_neg c]
      have l2 : load ≤ reachV ms := by
        split at l1 <;> omega
      obtain ⟨t, t1, t2, t3⟩ := greedy k ms hl hp' h0' load acc l0 l2
      exact ⟨t, by rw [e, t1], t2, t3.cons x⟩
theorem weigh_some {ls : List Int} (hp : ls.Pairwise (· ≤ ·)) (h0 : ∀ x ∈ ls, 0 ≤ x) {load : Int} (l0 : 0 ≤ load) (l1 : load ≤ reachV ls) : ∃ t : List Int, weighD ls load = dT t ∧ t.sum = load ∧ t = (sortI t).reverse ∧ t.Sublist ls.reverse := by
  obtain ⟨t, t1, t2, t3⟩ := greedy ls.length ls rfl hp h0 load [] l0 l1
  refine ⟨t, ?_, t2, ?_, t3⟩
  · unfold weighD weighL
    rw [t1, if_pos rfl]
    rfl
  · refine rev_one (List.Perm.refl t) ?_
    have : ls.reverse.Pairwise (· ≥ ·) := by
      rw [List.pairwise_reverse]; exact hp
    exact this.sublist t3
theorem powV_up : ∀ (n : Nat) (L : List Int), L ∈ powV n → L.Pairwise (· < ·)
  | 0, L, h => by
    rw [List.mem_singleton.mp (show L ∈ [[]] from h)]
    exact .nil
  | n + 1, L, h => by
    rcases List.mem_append.mp (show L ∈ powV n ++ (powV n).map fun t => t ++ [(n : Int)] from h) with h | h
    · exact powV_up n L h
    · obtain ⟨t, ht, rfl⟩ := List.mem_map.mp h
      rw [List.pairwise_append]
      refine ⟨powV_up n t ht, List.pairwise_singleton _ _, fun a ha b hb => ?_⟩
      rw [List.mem_singleton.mp hb]
      exact (powV_lt n t ht a ha).2
theorem lossOk_of {n : Nat} {L : List Int} (h : L ∈ powV n) : LossOk n L := ⟨powV_lt n L h, powV_up n L h⟩
theorem safe_reach {ns : List Int} {l : Nat} {L : List Int} (hp : ns.Pairwise (· ≤ ·)) (h : L ∈ lossesV ns.length l) : safeOf ns l ≤ reachV (leftV ns L) := by
  obtain ⟨h1, h2⟩ := mem_losses.mp h
  refine safe_le (leftV_sub ns L) hp ?_
  have := keepN_len ns.length L h1
  unfold leftV
  rw [List.length_map]
  omega
theorem losses_ne {n l : Nat} (h : l ≤ n) : lossesV n l ≠ [] := fun z => by
  have hm : gapLoss n 0 l ∈ lossesV n l := by
    refine mem_losses.mpr ⟨filter_pow _ _, ?_⟩
    have := gapLoss_len 0 l (n - l)
    rwa [show 0 + (l + (n - l)) = n by omega] at this
  rw [z] at hm
  cases hm
theorem losses_few2 (n l : Nat) (h : n ≤ 11) : (lossesV n l).length ≤ 2048 := by
  rw [(lossesV_perm _ _).length_eq]
  have h1 := List.length_filter_le (fun t : List Int => decide ((t.length : Int) = (l : Int))) (powV n)
  have h2 := powV_len n
  have h3 : 2 ^ n ≤ 2 ^ 11 := Nat.pow_le_pow_right (by decide) h
  have h11 : (2 : Nat) ^ 11 = 2048 := rfl
  unfold lossesR
  omega
theorem take_lt {ns : List Int} (h : ∀ x ∈ ns, 1 ≤ x) {i j : Nat} (hij : i < j) (hj : j ≤ ns.length) : (ns.take i).sum < (ns.take j).sum := by
  have e : ns.take j = ns.take i ++ (ns.drop i).take (j - i) := by
    rw [← List.take_add]
    congr 1
    omega
  rw [e, List.sum_append]
  have hne : ((ns.drop i).take (j - i)) ≠ [] := fun z => by
    have := congrArg List.length z
    rw [List.length_take, List.length_drop] at this
    simp at this
    omega
  cases hc : (ns.drop i).take (j - i) with
  | nil => exact absurd hc hne
  | cons a l =>
    have hm : ∀ x ∈ a :: l, 1 ≤ x := fun x hx => h x (List.mem_of_mem_drop (List.mem_of_mem_take (hc ▸ hx)))
    have h1 := hm a List.mem_cons_self
    have h2 := sum_sub_le (List.nil_sublist l) fun x hx => by have := hm x (List.mem_cons_of_mem _ hx); omega
    have h2' : 0 ≤ l.sum := h2
    rw [List.sum_cons]
    omega
end D

set_option Elab.async false
set_option linter.all false
set_option maxRecDepth 100000
set_option maxHeartbeats 2000000
set_option autoImplicit false
/-! Dg: all(..), any(..) of a generator expression whose element may call defs. -/
namespace GE
open PySem PySem.Spec PyProof.Rows L2

/-- a generator expression's own scope -/
structure GOk (scope : Scope) : Prop where
  co : scope.isCoroutine = false
  nocell : ∀ y ∈ scope.names, y.2 ≠ .cell
  dot : scope.names.lookup (".0" : Str) = some NameKind.local
/-- its context: started at s (heap H), its frame over the def's -/
abbrev gx (X : Cx) (A' : Around) (s : Shared) (H : Hp) (ge : Env) (fp : List Addr) (pn : List (Addr × Obj)) : Cx :=
  { X with A := A', s_0 := s, H_0 := H, env := ge, outer := X.stack, stack := ge :: X.stack, ex := fp, fn := fun _ => false, pn := pn, xe := fun _ _ => False }
/-- the generators' table may change -/
theorem regen {X : Cx} {pins : List (Addr × Obj)} {σ : L2.St} {H : Hp} {s s' : Shared} (I : Inv X pins σ H s) (e1 : s'.heap = s.heap) (e2 : s'.os = s.os) (b : AllBare s'.gens) : Inv X pins σ H s' := by
  obtain ⟨h', g', d', t', o'⟩ := s'
  have e1' : h' = s.heap := e1
  have e2' : o' = s.os := e2
  subst e1'
  subst e2'
  exact ⟨I.ok, I.os, b, I.base, I.loc, I.cell, I.free, I.freeC, I.pin, I.hok, I.len⟩

section
variable {X : Cx} {pins : List (Addr × Obj)} {σ : L2.St} {H : Hp} {s : Shared}
/-- the generator's frame is made -/
theorem start {scope : Scope} {own : List (Str × Nat)} {fp : List Addr} {A' : Around} {code : Value} {s' : Shared} {pn : List (Addr × Obj)} {m0 : Str → Option Value} (I : Inv X pins σ H s) (ok : BlkOk X.N X.env.scope scope own) (gk : GOk scope) (hN : X.N.Nodup)
    (hfp : ∀ b ∈ fp, FpOk X pins H b ∧ b < s.heap.objs.size) (hA : X.calm = true → A'.handled = none) (hfr : A'.frames = some (genEnv scope (cloFrom X.env.cells scope.names []) s.heap.objs.size code builtinsNs X.env :: X.stack))
    (kp : ∀ b o, s.heap.get? b = some o → s'.heap.get? b = some o) (hns : s'.heap.Ns s.heap.objs.size m0) (os : s'.os = s.os) (bare : AllBare s'.gens)
    (hpn : ∀ p ∈ pn, s'.heap.get? p.1 = some p.2 ∧ s.heap.objs.size < p.1 ∧ ∀ v, p.2.data ≠ .cell v) :
    Inv (gx X A' s H (genEnv scope (cloFrom X.env.cells scope.names []) s.heap.objs.size code builtinsNs X.env) fp pn) [] (wipe σ (own.map (·.2))) H s' := by
  have hfree : ∀ y ∈ scope.names, y.2 = .free → ∃ c, X.env.cells.lookup y.1 = some c := fun y hy e => (ok.free y hy e).elim (fun k => I.ok.has _ (.inl k)) fun k => I.ok.has _ (.inr k)
  generalize hge : genEnv scope (cloFrom X.env.cells scope.names []) s.heap.objs.size code builtinsNs X.env = ge at hfr ⊢
  have eL : ge.locals = s.heap.objs.size := by rw [← hge]; rfl
  have eC : ge.cells = cloFrom X.env.cells scope.names [] := by rw [← hge]; rfl
  have eS : ge.scope = scope := by rw [← hge]; rfl
  have cm : ∀ {y c}, (y, c) ∈ cloFrom X.env.cells scope.names [] → X.env.cells.lookup y = some c ∧ c < s.heap.objs.size := fun {y c} hm => by
    rcases cloFrom_mem hm with q | ⟨h1, rfl⟩
    · cases q
    · obtain ⟨c, hc⟩ := hfree _ h1 rfl
      rw [hc]
      obtain ⟨v, z⟩ := I.cell _ _ hc
      exact ⟨rfl, z.lt⟩
  have cl : ∀ {y c}, ge.cells.lookup y = some c → X.env.cells.lookup y = some c ∧ c < s.heap.objs.size := fun {y c} e => by
    rw [eC] at e
    exact cm (PySem.mem_of_lookup e)
  have look : ∀ {y}, scope.names.lookup y = some .free → ∃ c, ge.cells.lookup y = some c := fun {y} hl => by
    obtain ⟨c, e⟩ := mem_lookup (cloFrom_has (cells := X.env.cells) (acc := []) (PySem.mem_of_lookup hl))
    exact ⟨c, by rw [eC]; exact e⟩
  have nocell : ∀ {y}, scope.names.lookup y ≠ some .cell := fun {y} e => gk.nocell _ (PySem.mem_of_lookup e) rfl
  have okG : (gx X A' s H ge fp pn).Ok := by
    refine { mod := I.ok.mod, kind := ?_, glob := ?_, blt := ?_, above := ?_, inj := ?_, has := ?_, cab := (fun y c z => by cases z), hd := hA, frames := hfr, stk := .inr ⟨rfl, ?_⟩, exf := ?_, bs := I.bs, bsz := Nat.le_trans I.ok.bsz I.sz, noex := ?_, exfs := ?_, funs := I.stack, frf := I.stkFree }
    · show ge.scope.kind = _
      rw [eS]; exact ok.kind
    · show ge.globals = _
      rw [← hge]; exact I.ok.glob
    · show ge.builtins = _
      rw [← hge]; rfl
    · show s.heap.objs.size ≤ ge.locals
      rw [eL]; exact Nat.le_refl _
    · intro y z c e1 e2
      exact I.ok.inj y z c (cl e1).1 (cl e2).1
    · intro y hy
      have key : scope.names.lookup y = some .cell ∨ scope.names.lookup y = some .free := by
        rw [← eS]; exact hy
      exact key.elim (fun z => absurd z nocell) look
    · show ge.frame = some ge.locals
      rw [← hge]; rfl
    · intro b hb
      refine ⟨?_, fun y c e z => (hfp b hb).1.2.2.2.2.1 y c (cl e).1 z⟩
      show b ≠ ge.locals
      rw [eL]; exact Nat.ne_of_lt (hfp b hb).2
    · intro b o e hb
      rcases (hfp b hb).1.2.2.2.1 with z | z
      · exact I.ok.noex b o e z
      · exact absurd (Nat.lt_of_lt_of_le (Heap.lt_size e) (Nat.le_trans I.ok.bsz z)) (Nat.lt_irrefl _)
    · intro b hb z
      rcases List.mem_cons.mp (I.stkSub b z) with q | q
      · exact (hfp b hb).1.2.1 q
      · exact (hfp b hb).1.2.2.1 q
  have fresh : ∀ b, s.heap.objs.size ≤ b → H b = none := fun b hb => I.hok.fresh hb
  refine ⟨okG, os, bare, Un.kept kp, ⟨m0, ?_, ?_⟩, ?_, ?_, ?_, ?_, I.hok.kept kp, by rw [wipe_length]; exact I.len⟩
  · show s'.heap.Ns ge.locals _
    rw [eL]; exact hns
  · intro i y av e1 e2 e3
    obtain ⟨e2', hne⟩ := wipe_some e2
    have e3' : Vis scope y := by rw [← eS]; exact e3
    have hf : scope.names.lookup y = some .free := by
      have no : ∀ k, scope.names.lookup y = some k → ¬ (k = .local ∨ k = .cell) := fun k hk hh => by
        rcases ok.own _ (PySem.mem_of_lookup hk) hh with q | q
        · obtain ⟨p, hp, hpy⟩ := List.mem_map.mp q
          have e4 := ok.ix p hp
          have hpy' : p.1 = y := hpy
          rw [hpy'] at e4
          exact hne (List.mem_map.mpr ⟨p, hp, nodup_ix hN e4 e1⟩)
        · exact q (List.mem_of_getElem? e1)
      rcases e3' with z | z | z
      · exact absurd (.inl rfl) (no _ z)
      · exact absurd (.inr rfl) (no _ z)
      · exact z
    obtain ⟨m, hn, hl⟩ := I.loc
    have hvis : Vis X.env.scope y := (ok.free _ (PySem.mem_of_lookup hf) rfl).elim (fun k => .inr (.inl k)) fun k => .inr (.inr k)
    obtain ⟨v, r, q⟩ := hl i y av e1 e2' hvis
    refine ⟨v, r, .inr ⟨.inr (by show ge.scope.names.lookup y = _; rw [eS]; exact hf), ?_⟩⟩
    obtain ⟨c, hc⟩ := look hf
    refine ⟨c, hc, ?_⟩
    rcases q with ⟨k, _⟩ | ⟨_, c', e', z⟩
    · have k' : X.env.scope.names.lookup y = some .local := k
      rcases ok.free _ (PySem.mem_of_lookup hf) rfl with q | q <;> rw [show X.env.scope.names.lookup y = _ from q] at k' <;> cases k'
    · rw [(cl hc).1] at e'
      cases e'
      exact z.keeps kp
  · intro y c e
    obtain ⟨v, z⟩ := I.cell y c (cl e).1
    exact ⟨v, z.keeps kp⟩
  · show H ge.locals = none
    rw [eL]; exact fresh _ (Nat.le_refl _)
  · intro y c e
    exact I.freeC y c (cl e).1
  · intro p hp
    rw [List.append_nil] at hp
    obtain ⟨h1, h2, h3⟩ := hpn p hp
    refine ⟨h1, fresh _ (Nat.le_of_lt h2), ?_, ?_, h3⟩
    · show p.1 ≠ ge.locals
      rw [eL]; exact Nat.ne_of_gt h2
    · intro z
      rcases List.mem_cons.mp (I.stkSub _ z) with q | q
      · exact absurd I.lt (by rw [← q]; exact Nat.not_lt.mpr (Nat.le_of_lt h2))
      · exact I.nofs (Nat.le_of_lt h2) q
end

/-! ### the generator's turns -/
section
variable {Z : Cx} {A1 : Around} {elt tg iter : Expr} {scope : Scope} {gpos : Pos} {it : Addr} {fp : List Addr} {tn : Nat → Heap → Prop} {J : It} {gt : TG} {te : TE} {vs : List Nat} {σ : L2.St} {n : Nat} {p : Nat → Bool} {W : Nat → Hp → Prop}
abbrev gCode (elt tg iter : Expr) (scope : Scope) (gpos : Pos) (it : Addr) (ge : Env) : Code := .compLoop (.GeneratorExp elt [⟨tg, iter, [], 0⟩] scope gpos) 0 (.ref it) .none ge
/-- ahead of the turn i -/
def AtTurn (Z : Cx) (fp : List Addr) (tn : Nat → Heap → Prop) (vs : List Nat) (σ : L2.St) (W : Nat → Hp → Prop) (i : Nat) (s : Shared) : Prop :=
  ∃ H', Inv Z [] (wipe σ vs) H' s ∧ tn i s.heap ∧ (∀ b ∈ fp, H' b = none) ∧ W i H'
def Same (s s' : Shared) : Prop := s'.heap = s.heap ∧ s'.os = s.os ∧ AllBare s'.gens
theorem AtTurn.same {i : Nat} {s s' : Shared} (h : AtTurn Z fp tn vs σ W i s) (e : Same s s') : AtTurn Z fp tn vs σ W i s' := by
  obtain ⟨H', I, st, hn, w⟩ := h
  exact ⟨H', regen I e.1 e.2.1 e.2.2, by rw [e.1]; exact st, hn, w⟩
def YP (Z : Cx) (fp : List Addr) (tn : Nat → Heap → Prop) (vs : List Nat) (σ : L2.St) (W : Nat → Hp → Prop) (n : Nat) (p : Nat → Bool) : Protocol := fun m _ v s kap =>
  ∃ i, i + 1 + m = n ∧ v = .bool (p i) ∧ AtTurn Z fp tn vs σ W (i + 1) s ∧ ∀ s'', Same s s'' → kap (.send .none) s''
def EPr (Z : Cx) (vs : List Nat) (σ : L2.St) (W : Nat → Hp → Prop) (n : Nat) : Nat → Shared → Shared → Prop := fun k _ s => k = 0 ∧ ∃ H', Inv Z [] (wipe σ vs) H' s ∧ W n H'
/-- what the readings of target and element give -/
structure Turns (J : It) (gt : TG) (te : TE) (vs : List Nat) (σ : L2.St) (n : Nat) (p : Nat → Bool) (W : Nat → Hp → Prop) : Prop where
  go : ∀ i H', i < n → W i H' → J.go i H'
  step : ∀ i H', i < n → W i H' → ∀ x H'', J.yld i H' x H'' → gt x (wipe σ vs) H'' fun σ2 H2 => wipe σ2 vs = wipe σ vs ∧ te σ2 H2 fun y H3 => y = .bl (p i) ∧ W (i + 1) H3
  stop : ∀ H', W n H' → J.stop n H'

theorem seg_turns (hA : A1.over (gCode elt tg iter scope gpos it Z.env) [] = Z.A) (hex : Z.ex = fp) (hxe : Z.xe = fun _ _ => False) (T : Turn Z.prog Z.w Z.K tg J fp it tn) (hc : Z.calm = true) (hpn : ∀ q ∈ Z.pn, q.1 ∉ fp) (pg : PG Z tg gt) (pe : PE Z elt te) (hco : Z.env.scope.isCoroutine = false) (R : Turns J gt te vs σ n p W) :
    ∀ (k i : Nat) (s₀ s : Shared), n - i = k → i ≤ n → AtTurn Z fp tn vs σ W i s → Seg (model Z.prog Z.w) A1 (fun k s₀ r s₁ => r = .ok .next ∧ EPr Z vs σ W n k s₀ s₁) (YP Z fp tn vs σ W n p) k s₀ (gCode elt tg iter scope gpos it Z.env) ((model Z.prog Z.w).den (gCode elt tg iter scope gpos it Z.env)) [] s := by
  have stat : ∀ {σ' : L2.St} {H' : Hp} {s' : Shared}, Inv Z [] σ' H' s' → (∀ b ∈ fp, H' b = none) → ∀ b ∈ fp, FpOk Z [] H' b := fun {σ' H' s'} I' hn b hb =>
    ⟨hn b hb, (I'.ok.exf b (hex ▸ hb)).1, I'.ok.exfs b (hex ▸ hb), .inl (hex ▸ hb), fun x c e => (I'.ok.exf b (hex ▸ hb)).2 x c e, fun q hq z => by
      rw [List.append_nil] at hq
      exact hpn q hq (by rw [z]; exact hb)⟩
  intro k
  induction k with
  | zero =>
    intro i s₀ s hk hi ⟨H', I, st, nfp, w⟩
    have e : i = n := by omega
    subst e
    show Seg _ A1 _ _ _ s₀ _ ((compTurn (.GeneratorExp elt [⟨tg, iter, [], 0⟩] scope gpos) 0 (.ref it) .none Z.env).onRaise (leaving Z.env)) [] s
    rw [compTurn_gen, Sem.onRaise_eq_wrap]
    refine seg_bind_wrap (wpAny_standAt ?_)
    refine seg_bind_wrap ?_
    rw [hA]
    refine thnF (T.done Z rfl rfl rfl hc i [] s _ H' (fun _ _ => False) I (stat I nfp) st (R.stop H' w)) fun r s6 ⟨hr, I6⟩ => ?_
    subst hr
    exact seg_end (.ok .next) ⟨rfl, rfl, H', I6, w⟩
  | succ k ih =>
    intro i s₀ s hk hi ⟨H', I, st, nfp, w⟩
    have hlt : i < n := by omega
    show Seg _ A1 _ _ _ s₀ _ ((compTurn (.GeneratorExp elt [⟨tg, iter, [], 0⟩] scope gpos) 0 (.ref it) .none Z.env).onRaise (leaving Z.env)) [] s
    rw [compTurn_gen, Sem.onRaise_eq_wrap]
    refine seg_bind_wrap (wpAny_standAt ?_)
    refine seg_bind_wrap ?_
    rw [hA]
    refine thnF (T.item Z rfl rfl rfl hc i [] s _ H' (fun _ _ => False) I (stat I nfp) st (R.go i H' hlt w)) fun r s6 ⟨u, hr, h6⟩ => ?_
    subst hr
    refine seg_bind_wrap ?_
    rw [hA]
    refine thnF h6 fun _ s7 ⟨x, H7, I7, r7, y7, st7, n7⟩ => ?_
    have I7' := I7.pinned (stat I7 n7) (T.obj _ _ st7)
    refine seg_bind_wrap ?_
    rw [hA]
    have run := pg.run _ s7 _ H7 x u _ I7' r7 (R.step i H' hlt w x H7 y7)
    rw [hxe] at run
    refine thnF run fun _ s8 ⟨σ8, H8, I8, hw8, q8⟩ => ?_
    refine seg_bind_wrap ?_
    rw [List.forIn_nil]
    refine wpAny_pure ?_
    simp only [if_true]
    have hy : ∀ v, yieldOut Z.env v = yieldValue v := fun v => by
      simp only [yieldOut, hco, Bool.false_eq_true, if_false]
    simp only [hy]
    rw [Sem.bind_eq_wrap', Sem.bind_eq_wrap',
      Sem.wrap_wrap, Sem.wrap_wrap]
    refine seg_wrap ?_
    rw [hA]
    have run2 := pe.run _ s8 σ8 H8 _ I8 q8
    rw [hxe] at run2
    refine thnF run2 fun z s10 ⟨yv, H10, I10, r10, ey, w10⟩ => ?_
    subst ey
    have ez : z = .bool (p i) := r10
    subst ez
    -- the turn's end
    have pin' : ∀ b ∈ fp, ∀ o, s7.heap.get? b = some o → s10.heap.get? b = some o ∧ H10 b = none := fun b hb o e =>
      let q := I10.pin (b, o) (List.mem_append_right _ (List.mem_append_right _ (mem_pinsAt hb e)))
      ⟨q.1, q.2.1⟩
    have hl : (wipe σ vs).length = σ8.length := by rw [← hw8, wipe_length]
    have T10 : AtTurn Z fp tn vs σ W (i + 1) s10 := by
      refine ⟨H10, (I10.unpinned (pins := [])).weak hl (fun j v e => ?_), T.keep _ _ _ st7 fun b hb o e => (pin' b hb o e).1, fun b hb => ?_, w10⟩
      · rw [← hw8] at e
        exact (wipe_some e).1
      · obtain ⟨o, e, _⟩ := T.obj _ _ st7 b hb
        exact (pin' b hb o e).2
    refine seg_at (seg_yield rfl rfl rfl ⟨i, by omega, rfl, T10, fun s'' sm => ?_⟩)
    exact seg_again rfl (ih (i + 1) s'' s'' (by omega) hlt (T10.same sm))

/-- the generator a, the g-th, ahead of its turn i -/
def GSt (Z : Cx) (A1 : Around) (fp : List Addr) (tn : Nat → Heap → Prop) (vs : List Nat) (σ : L2.St) (W : Nat → Hp → Prop) (n : Nat) (p : Nat → Bool) (g : Nat) (i : Nat) (s : Shared) : Prop :=
  AtTurn Z fp tn vs σ W i s ∧ ∃ gs, s.gens[g]? = some gs ∧ ∀ s'', Same s s'' → gs.Goes (model Z.prog Z.w) A1 (fun k s₀ r s₁ => r = .ok .next ∧ EPr Z vs σ W n k s₀ s₁) (YP Z fp tn vs σ W n p) (n - i) (.send .none) s''
variable {a g : Nat} {B : Around}
theorem AtTurn.bare {i : Nat} {s : Shared} (h : AtTurn Z fp tn vs σ W i s) : AllBare s.gens := let ⟨_, I, _⟩ := h; I.bare
theorem bare_set {s : Shared} {x : GenState} (h : AllBare s.gens) (hx : x.bare = true) : AllBare (s.setGen g x).gens := allBare_setGen h hx
theorem gnext {i : Nat} {s : Shared} (hB : B.in1 = A1) (hh : B.handled = none) (hroom : B.depth < recursionLimit) (hgen : ∀ {σ' H' s'}, Inv Z [] σ' H' s' → s'.heap.IsGen a g) (hi : i < n) (h : GSt Z A1 fp tn vs σ W n p g i s) :
    wpAny (model Z.prog Z.w) B (pyNext (.ref a)) (fun r s' => r = some (.bool (p i)) ∧ GSt Z A1 fp tn vs σ W n p g (i + 1) s') (fun _ _ => False) s := by
  obtain ⟨⟨H', I, st, nfp, w⟩, gs, hgs, hgo⟩ := h
  obtain ⟨hsz, _⟩ := Array.getElem?_eq_some_iff.mp hgs
  obtain ⟨m, hm⟩ : ∃ m, n - i = m + 1 := ⟨n - i - 1, by omega⟩
  have hgo1 := hgo (s.setGen g .running) ⟨rfl, rfl, bare_set I.bare rfl⟩
  rw [hm, ← hB] at hgo1
  refine GenW.wpAny_gsz (n := g + 1) hsz ?_
  refine wpAny_pyNext_genexpQ hh I.nolimit hroom (hgen I) hgs hgo1 (fun v s₁ gs' hb hv => ?_) (fun s₁ hp h' hk => ?_)
  · obtain ⟨i', hi', rfl, t1, hkap⟩ := hv
    have e : i' = i := by omega
    subst e
    intro hz
    rw [GenW.setGen_size] at hz
    refine ⟨rfl, t1.same ⟨rfl, rfl, bare_set t1.bare hb⟩, gs', setGen_at hz, fun s'' sm => ?_⟩
    have e2 : n - (i' + 1) = m := by omega
    rw [e2, ← hB]
    exact hkap s'' ⟨sm.1, sm.2.1, sm.2.2⟩
  · exact absurd hp.1 (Nat.succ_ne_zero m)
theorem gstop {s : Shared} (hB : B.in1 = A1) (hh : B.handled = none) (hroom : B.depth < recursionLimit) (hgen : ∀ {σ' H' s'}, Inv Z [] σ' H' s' → s'.heap.IsGen a g) (h : GSt Z A1 fp tn vs σ W n p g n s) :
    wpAny (model Z.prog Z.w) B (pyNext (.ref a)) (fun r s' => r = none ∧ ∃ H', Inv Z [] (wipe σ vs) H' s' ∧ W n H') (fun _ _ => False) s := by
  obtain ⟨⟨H', I, st, nfp, w⟩, gs, hgs, hgo⟩ := h
  have hgo1 := hgo (s.setGen g .running) ⟨rfl, rfl, bare_set I.bare rfl⟩
  rw [Nat.sub_self, ← hB] at hgo1
  refine wpAny_pyNext_genexpQ hh I.nolimit hroom (hgen I) hgs hgo1 (fun v s₁ gs' hb hv => ?_) (fun s₁ hp h' hk => ?_)
  · obtain ⟨_, _, _, _, hkap⟩ := hv
    exact False.elim (hkap s₁ ⟨rfl, rfl, AtTurn.bare (by assumption)⟩)
  · obtain ⟨_, H2, I2, w2⟩ := hp
    have I3 : Inv Z [] (wipe σ vs) H2 (s₁.setGen g .finished) := regen I2 rfl rfl (bare_set I2.bare rfl)
    exact ⟨rfl, H2, I3.turnedL (ch := []) (t' := (s₁.setGen g .finished).toks) (fun b o _ e => hk b o e) (fun b hb => by cases hb), w2⟩
/-! ### all, any -/
/-- done: some turns have been made -/
def Fin (Z : Cx) (vs : List Nat) (σ : L2.St) (W : Nat → Hp → Prop) (n : Nat) (s : Shared) : Prop := ∃ j H', j ≤ n ∧ Inv Z [] (wipe σ vs) H' s ∧ W j H'
theorem loop_all {B0 : Around} {R : Result → Shared → Prop} (hB : B0.in1.in1 = A1) (hh : B0.handled = none) (hroom : B0.depth < recursionLimit) (hgen : ∀ {σ' H' s'}, Inv Z [] σ' H' s' → s'.heap.IsGen a g) :
    ∀ (k i : Nat) (s : Shared), n - i = k → i ≤ n → GSt Z A1 fp tn vs σ W n p g i s → (∀ s', Fin Z vs σ W n s' → R (.ok (.ret (.bool (((List.range n).drop i).all p)))) s') → codeAny (model Z.prog Z.w) B0 (.builtin "all.loop" ⟨[.ref a], []⟩) R s := by
  intro k
  induction k with
  | zero =>
    intro i s hk hi h hR
    obtain rfl : i = n := by omega
    refine codeAny_builtin F.entry_all_loop ?_
    rw [Around.under_plainId F.plain_all_loop _]
    show wpAny _ B0.in1 (pyNext (.ref a) >>= _) _ _ s
    refine wpAny_bind (thnF (gstop hB hh hroom hgen h) fun r s' ⟨hr, H', I, w⟩ => ?_)
    subst hr
    refine wpAny_bind (wpAny_rule (wpAny_pure ?_))
    have := hR s' ⟨i, H', Nat.le_refl _, I, w⟩
    rwa [List.drop_eq_nil_of_le (by rw [List.length_range]; exact Nat.le_refl _)] at this
  | succ k ih =>
    intro i s hk hi h hR
    have hlt : i < n := by omega
    refine codeAny_builtin F.entry_all_loop ?_
    rw [Around.under_plainId F.plain_all_loop _]
    show wpAny _ B0.in1 (pyNext (.ref a) >>= _) _ _ s
    refine wpAny_bind (thnF (gnext hB hh hroom hgen hlt h) fun r s' ⟨hr, h'⟩ => ?_)
    subst hr
    have hd := range_drop hlt
    refine wpAny_bind (wpAny_holding (wpAny_truthy_bool ?_))
    refine wpAny_bind (wpAny_letGo ?_)
    cases hb : p i with
    | true =>
      simp only [if_true]
      refine wpAny_pure ⟨plainId_quiet F.plain_all_loop _, ih (i + 1) s' (by omega) hlt h' fun s'' f => ?_⟩
      have q := hR s'' f
      rwa [hd, List.all_cons, hb, Bool.true_and] at q
    | false =>
      simp only [Bool.false_eq_true, if_false]
      refine wpAny_bind (wpAny_rule (wpAny_pure ?_))
      obtain ⟨H2, I2, _, _, w2⟩ := h'.1
      have q := hR s' ⟨i + 1, H2, hlt, I2, w2⟩
      rwa [hd, List.all_cons, hb, Bool.false_and] at q
theorem loop_any {B0 : Around} {R : Result → Shared → Prop} (hB : B0.in1.in1 = A1) (hh : B0.handled = none) (hroom : B0.depth < recursionLimit) (hgen : ∀ {σ' H' s'}, Inv Z [] σ' H' s' → s'.heap.IsGen a g) :
    ∀ (k i : Nat) (s : Shared), n - i = k → i ≤ n → GSt Z A1 fp tn vs σ W n p g i s → (∀ s', Fin Z vs σ W n s' → R (.ok (.ret (.bool (((List.range n).drop i).any p)))) s') → codeAny (model Z.prog Z.w) B0 (.builtin "any.loop" ⟨[.ref a], []⟩) R s := by
  intro k
  induction k with
  | zero =>
    intro i s hk hi h hR
    obtain rfl : i = n := by omega
    refine codeAny_builtin F.entry_any_loop ?_
    rw [Around.under_plainId F.plain_any_loop _]
    show wpAny _ B0.in1 (pyNext (.ref a) >>= _) _ _ s
    refine wpAny_bind (thnF (gstop hB hh hroom hgen h) fun r s' ⟨hr, H', I, w⟩ => ?_)
    subst hr
    refine wpAny_bind (wpAny_rule (wpAny_pure ?_))
    have := hR s' ⟨i, H', Nat.le_refl _, I, w⟩
    rwa [List.drop_eq_nil_of_le (by rw [List.length_range]; exact Nat.le_refl _)] at this
  | succ k ih =>
    intro i s hk hi h hR
    have hlt : i < n := by omega
    refine codeAny_builtin F.entry_any_loop ?_
    rw [Around.under_plainId F.plain_any_loop _]
    show wpAny _ B0.in1 (pyNext (.ref a) >>= _) _ _ s
    refine wpAny_bind (thnF (gnext hB hh hroom hgen hlt h) fun r s' ⟨hr, h'⟩ => ?_)
    subst hr
    have hd := range_drop hlt
    refine wpAny_bind (wpAny_holding (wpAny_truthy_bool ?_))
    refine wpAny_bind (wpAny_letGo ?_)
    cases hb : p i with
    | false =>
      simp only [Bool.false_eq_true, if_false]
      refine wpAny_pure ⟨plainId_quiet F.plain_any_loop _, ih (i + 1) s' (by omega) hlt h' fun s'' f => ?_⟩
      have q := hR s'' f
      rwa [hd, List.any_cons, hb, Bool.false_or] at q
    | true =>
      simp only [if_true]
      refine wpAny_bind (wpAny_rule (wpAny_pure ?_))
      obtain ⟨H2, I2, _, _, w2⟩ := h'.1
      have q := hR s' ⟨i + 1, H2, hlt, I2, w2⟩
      rwa [hd, List.any_cons, hb, Bool.true_or] at q
end
end GE
namespace GE
open PySem PySem.Spec PyProof.Rows L2
section
variable {X : Cx}
abbrev GBlk (X : Cx) (scope : Scope) (A' : Around) (s : Shared) (H : Hp) (C : Addr) (code : Value) (cl : List (Str × Addr)) (fp : List Addr) (pn : List (Addr × Obj)) : Cx :=
  gx X A' s H (genEnv scope cl C code builtinsNs X.env) fp pn
theorem seg_first {Z : Cx} {A1 : Around} {R : GenEnd} {Y : Protocol} {elt tg iter : Expr} {scope : Scope} {gpos : Pos} {it : Addr} {fp : List Addr} {tn : Nat → Heap → Prop} {J : It} {k : Nat} {s₀ s : Shared}
    (T : Turn Z.prog Z.w Z.K tg J fp it tn) (st : tn 0 s.heap) (loop : Seg (model Z.prog Z.w) A1 R Y k s₀ (gCode elt tg iter scope gpos it Z.env) ((model Z.prog Z.w).den (gCode elt tg iter scope gpos it Z.env)) [] s) :
    Seg (model Z.prog Z.w) A1 R Y k s₀ (.compStart (.GeneratorExp elt [⟨tg, iter, [], 0⟩] scope gpos) 0 (.ref it) .none Z.env)
      ((model Z.prog Z.w).den (.compStart (.GeneratorExp elt [⟨tg, iter, [], 0⟩] scope gpos) 0 (.ref it) .none Z.env)) [] s := by
  show Seg _ A1 _ _ _ s₀ _ ((compStart (.GeneratorExp elt [⟨tg, iter, [], 0⟩] scope gpos) 0 (.ref it) .none Z.env).onRaise (leaving Z.env)) [] s
  unfold compStart
  rw [Sem.onRaise_eq_wrap]
  show Seg _ A1 _ _ _ s₀ _ ((ask >>= _).wrap _ _ _ _) [] s
  refine seg_bind_wrap (wpAny_askSetting ?_)
  have fin := T.self (A1.over (.compStart (.GeneratorExp elt [⟨tg, iter, [], 0⟩] scope gpos) 0 (.ref it) .none Z.env) []) 0 s
  split
  · exact seg_again rfl loop
  · refine seg_bind_wrap (wpAny_rule ?_)
    exact seg_bind_wrap (wpAny_standAt (seg_bind_wrap (fin _ _ st (seg_again rfl loop))))
theorem over_frames {A : Around} {elt tg iter : Expr} {scope : Scope} {gpos : Pos} {it : Addr} {ge : Env} {st : List Env} (h : A.frames = some st) (hf : ge.frame.isSome = true) : (A.over (gCode elt tg iter scope gpos it ge) []).frames = some (ge :: st) := by
  obtain ⟨hd, d, fr, gs, u⟩ := A
  have h' : fr = some st := h
  subst h'
  simp [Around.over, marksOver, frameCount, unitsOf, envsOf, guardsOf, pushEnvs, pushGuards, Code.envs, Code.env?, Code.isFrame, Code.guards, Code.isGuard, Code.weight, Code.frames, Code.isCreation, Code.isCaller, Code.cUnits, Frame.where_, hf]
theorem over_room {A : Around} {elt tg iter : Expr} {scope : Scope} {gpos : Pos} {it : Addr} {ge : Env} {k : Nat} (h : Room (k + 1) A) : Room k (A.in1.in1.over (gCode elt tg iter scope gpos it ge) []) := by
  obtain ⟨h1, h2, h3⟩ := h
  refine ⟨h1, ?_, ?_⟩
  · have e : (A.in1.in1.over (gCode elt tg iter scope gpos it ge) []).depth = A.depth + 1 := by
      first | rfl | simp [Around.over, Around.in1, frameCount, Code.weight, Code.isCreation, Code.isGuard, Code.isCaller, Code.frames, Code.isFrame]
    omega
  · have e : (A.in1.in1.over (gCode elt tg iter scope gpos it ge) []).units ≤ A.units + 5 := by
      first | exact Nat.le_of_eq rfl | simp [Around.over, Around.in1, unitsOf, Code.cUnits, Code.frames, Code.isFrame]
    omega
end
end GE
namespace GE
open PySem PySem.Spec PyProof.Rows L2
section
variable {X : Cx}
/-- all(..), any(..): what is walked; behind it the def's table may have grown; then the turns -/
def tGen (fold : (Nat → Bool) → Nat → Bool) (P : Addr) (wi : TI) (gt : TG) (te : TE) (vs : List Nat) : TE := fun σ H Q => wi σ H fun J H1 => GxR.TabG H1 P ∧ ∀ H2, GxR.Tabbed P H1 H2 →
  ∃ (n : Nat) (p : Nat → Bool) (W : Nat → Hp → Prop), W 0 H2 ∧ Turns J gt te vs σ n p W ∧ ∀ j H', j ≤ n → W j H' → Q (.bl (fold p n)) H'
def allF (p : Nat → Bool) (n : Nat) : Bool := (List.range n).all p
def anyF (p : Nat → Bool) (n : Nat) : Bool := (List.range n).any p
/-- the generator a is made -/
def Made (X : Cx) (pins : List (Addr × Obj)) (σ : L2.St) (vs : List Nat) (Q : Bool → VK) (Rf : (Nat → Bool) → Nat → Bool) (a : Addr) (s5 : Shared) : Prop :=
  ∃ (Z : Cx) (fp : List Addr) (tn : Nat → Heap → Prop) (W : Nat → Hp → Prop) (n : Nat) (p : Nat → Bool) (g : Nat), Z.prog = X.prog ∧ Z.w = X.w ∧ (∀ {σ' H' s'}, Inv Z [] σ' H' s' → s'.heap.IsGen a g) ∧ GSt Z X.A.in1.in1 fp tn vs σ W n p g 0 s5 ∧
    ∀ s', Fin Z vs σ W n s' → ∃ H', Inv X pins σ H' s' ∧ Q (Rf p n) (.bl (Rf p n)) H'
theorem gen_made {c P : Addr} {elt tg iter : Expr} {gpos : Pos} {scope : Scope} {own : List (Str × Nat)} {wi : TI} {gt : TG} {te : TE} {k : Nat} {pins : List (Addr × Obj)} {σ : L2.St} {H : Hp} {s : Shared} {fold : (Nat → Bool) → Nat → Bool} {Q : VK} {Q' : Value → Shared → Prop}
    (hr : Room (k + 1) X.A) (TB : GxR.TabB X.base X.mg c P) (hcode : X.env.code = .ref c) (hc : X.calm = true) (hN : X.N.Nodup) (hi : PI X tg iter wi) (ok : BlkOk X.N X.env.scope scope own) (gk : GOk scope)
    (hg : ∀ A' s H C code cl fp pn, PG (GBlk X scope A' s H C code cl fp pn) tg gt) (he : ∀ A' s H C code cl fp pn, Room k A' → PE (GBlk X scope A' s H C code cl fp pn) elt te)
    (hs : ∀ v, genFold iter X.env v = pure v) (I : Inv X pins σ H s) (h : tGen fold P wi gt te (own.map (·.2)) σ H Q)
    (hQ : ∀ a s5, Made X pins σ (own.map (·.2)) (fun _ => Q) fold a s5 → Q' (.ref a) s5) :
    wpAny (model X.prog X.w) X.A (eval (.GeneratorExp elt [⟨tg, iter, [], 0⟩] scope gpos) X.env) Q' X.xe s := by
  have hfree : ∀ y ∈ scope.names, y.2 = .free → ∃ c, X.env.cells.lookup y.1 = some c := fun y hy e => (ok.free y hy e).elim (fun k => I.ok.has _ (.inl k)) fun k => I.ok.has _ (.inr k)
  refine wpAny_GeneratorExp_make gk.co (closure_ok hfree) gk.nocell gk.dot ok.kind (by have := hr.dp; omega) ?_ hs
  refine thn (hi.run pins s σ H _ I h) fun xv s1 h1 => thn h1 fun itv s2 h2 => ?_
  obtain ⟨it, fp, tn, J, H2, rfl, I2, T, st2, f2, ⟨ps, hP, ht⟩, q⟩ := h2
  refine ⟨I2.nolimit, ?_⟩
  have hPs : s2.heap.get? P = some { cls := .none, data := .fields ps } := I2.hok P _ hP
  have cd : PySem.W.CodeHd s2.heap c P := TB.code.keeps fun b u e => I2.bk b u e
  have cont : ∀ (code : Value) (h3 : Heap) (tk : Nat) (H3 : Hp), Inv X pins σ H3 { s2 with heap := h3, toks := tk } → GxR.Tabbed P H2 H3 → (∀ b ∈ fp, ∀ o, s2.heap.get? b = some o → h3.get? b = some o) →
      wpAny (model X.prog X.w) X.A (builtinsFor X.env.globals X.env.builtins) (fun bi s₄ => ∀ h', h'.Ns s₄.heap.objs.size (fun y => if y = ".0" then some (.ref it) else none) → Heap.SameBut s₄.heap.objs.size (s₄.heap.push { cls := .type "frame", data := .dict #[] }) h' →
          Q' (.ref h'.objs.size) { s₄ with
            gens := s₄.gens.push (.fresh (.compStart (.GeneratorExp elt [⟨tg, iter, [], 0⟩] scope gpos) 0 (.ref it) .none (genEnv scope (cloFrom X.env.cells scope.names []) s₄.heap.objs.size code bi X.env))),
            toks := s₄.toks + 1 + 1 + 1,
            heap := h'.push { cls := .type "generator", data := .fields #[.int s₄.gens.size 0, .str "<genexpr>" (s₄.toks + 1), .str (X.env.qual ++ "<genexpr>") (s₄.toks + 1 + 1)] } }) X.xe { s2 with heap := h3, toks := tk } := by
    intro code h3 tk H3 I3 htab kfp
    obtain ⟨bm, ob, e1, e2, e3, e4, e5, e6, e7, e8⟩ := TB.bm
    generalize hs3 : ({ s2 with heap := h3, toks := tk } : Shared) = s3 at I3 ⊢
    have eh : s3.heap = h3 := by rw [← hs3]
    refine wpAny_builtinsFor (m := X.mg) (by rw [I3.ok.glob]; exact I3.mod.glob.keeps I3.bk) e1 e2 (I3.bk _ _ e5) e6 e7 e8 ?_
    intro h' hns hsb
    have hsz : h'.objs.size = s3.heap.objs.size + 1 := by rw [hsb.1, Heap.size_push]
    have kp' : ∀ b o, s3.heap.get? b = some o → h'.get? b = some o := fun b o e => hsb.extBut b o (Nat.ne_of_lt (Heap.lt_size e)) (Heap.get?_push_of_some _ e)
    obtain ⟨n, p, W, w0, R, fin⟩ := q H3 htab
    have n3 : ∀ b ∈ fp, H3 b = none := fun b hb => by
      have hb2 := (f2 b hb).1
      have ne : b ≠ P := fun z => by rw [z, hP] at hb2; cases hb2
      rw [htab.2 b ne]; exact hb2
    have f3 : ∀ b ∈ fp, FpOk X pins H3 b ∧ b < s3.heap.objs.size := fun b hb => by
      obtain ⟨o, e, _⟩ := T.obj _ _ st2 b hb
      exact ⟨⟨n3 b hb, (f2 b hb).2⟩, by rw [eh]; exact Heap.lt_size (kfp b hb o e)⟩
    generalize hgo : ({ cls := .type "generator", data := .fields #[.int s3.gens.size 0, .str "<genexpr>" (s3.toks + 1), .str (X.env.qual ++ "<genexpr>") (s3.toks + 1 + 1)] } : Obj) = gob
    have ga : (h'.push gob).get? h'.objs.size = some gob := by
      subst hgo
      exact Heap.get?_push_size _ rfl
    have kp5 : ∀ b o, s3.heap.get? b = some o → (h'.push gob).get? b = some o := fun b o e => Heap.get?_push_of_some _ (kp' b o e)
    generalize hge : genEnv scope (cloFrom X.env.cells scope.names []) s3.heap.objs.size code builtinsNs X.env = ge
    have hfe : ge.frame.isSome = true := by rw [← hge]; rfl
    have hco : ge.scope.isCoroutine = false := by rw [← hge]; exact gk.co
    have hfr := over_frames (elt := elt) (tg := tg) (iter := iter) (scope := scope) (gpos := gpos) (it := it) (A := X.A.in1.in1) (ge := ge) (st := X.stack) I.ok.frames hfe
    have hrm := over_room (elt := elt) (tg := tg) (iter := iter) (scope := scope) (gpos := gpos) (it := it) (ge := ge) hr
    generalize hA' : X.A.in1.in1.over (gCode elt tg iter scope gpos it ge) [] = A' at hfr hrm
    refine hQ _ _ ?_
    generalize hs5 : ({ s3 with gens := _, toks := _, heap := _ } : Shared) = s5
    have e5h : s5.heap = h'.push gob := by rw [← hs5]
    have e5o : s5.os = s3.os := by rw [← hs5]
    have e5b : AllBare s5.gens := by
      rw [← hs5]
      intro y hy
      rcases Array.mem_push.mp hy with z | z
      · exact I3.bare y z
      · rw [z]; rfl
    have e5g : s5.gens[s3.gens.size]? = some (.fresh (.compStart (.GeneratorExp elt [⟨tg, iter, [], 0⟩] scope gpos) 0 (.ref it) .none ge)) := by
      rw [← hs5]
      exact Array.getElem?_push_size ..
    have I5 := start (code := code) (s' := s5) (pn := [(h'.objs.size, gob)]) (A' := A') I3 ok gk hN f3 (fun _ => hrm.hd) (by rw [hge]; exact hfr) (fun b o e => by rw [e5h]; exact kp5 b o e) (by rw [e5h]; exact hns.push _) e5o e5b (fun z hz => by
      rw [List.mem_singleton.mp hz]
      refine ⟨by rw [e5h]; exact ga, by show s3.heap.objs.size < h'.objs.size; omega, fun v z => ?_⟩
      subst hgo
      cases z)
    have pgZ := hg A' s3 H3 s3.heap.objs.size code (cloFrom X.env.cells scope.names []) fp [(h'.objs.size, gob)]
    have peZ := he A' s3 H3 s3.heap.objs.size code (cloFrom X.env.cells scope.names []) fp [(h'.objs.size, gob)] hrm
    unfold GBlk at pgZ peZ
    rw [hge] at I5 pgZ peZ
    have hTI : AtTurn (gx X A' s3 H3 ge fp [(h'.objs.size, gob)]) fp tn (own.map (·.2)) σ W 0 s5 := ⟨H3, I5, T.keep _ _ _ st2 fun b hb o e => by rw [e5h]; exact kp5 b o (by rw [eh]; exact kfp b hb o e), n3, w0⟩
    have hpn : ∀ z ∈ [(h'.objs.size, gob)], z.1 ∉ fp := fun z hz hb => by
      rw [List.mem_singleton.mp hz] at hb
      have h2 : h'.objs.size < s3.heap.objs.size := (f3 _ hb).2
      omega
    have segs := seg_turns (Z := gx X A' s3 H3 ge fp [(h'.objs.size, gob)]) (A1 := X.A.in1.in1) (elt := elt) (iter := iter) (scope := scope) (gpos := gpos) hA' rfl rfl T hc hpn pgZ peZ hco R
    refine ⟨gx X A' s3 H3 ge fp [(h'.objs.size, gob)], fp, tn, W, n, p, s3.gens.size, rfl, rfl, fun {σ' H' s'} J => ?_, ⟨hTI, _, e5g, fun s'' sm => ⟨rfl, ?_⟩⟩, fun s' ⟨j, H', hj, J, wj⟩ => ?_⟩
    · have z := (J.pin (h'.objs.size, gob) (List.mem_append_left _ List.mem_cons_self)).1
      subst hgo
      exact ⟨_, _, _, z, rfl, rfl, rfl⟩
    · have t0 := hTI.same sm
      obtain ⟨_, _, tst, _⟩ := t0
      exact seg_first (Z := gx X A' s3 H3 ge fp [(h'.objs.size, gob)]) T tst (segs (n - 0) 0 s'' s'' rfl (Nat.zero_le _) (hTI.same sm))
    · refine ⟨H', I3.call' (ch := fp) J.os J.base J.hok J.bare fun b hb => ⟨(f3 b hb).1.2.2.2.1, (f3 b hb).1.2.1, (f3 b hb).1.2.2.2.2.1, (f3 b hb).1.2.2.2.2.2⟩, fin j H' hj wj⟩
  cases hf : codeAmong gpos ps.toList with
  | none =>
    refine wpAny_genexprCodeX hcode (cd.code hPs ht) (cd.tab hPs) hf fun c' h' tk hx hge hlt hco' _ htab' _ => ?_
    obtain ⟨o1, vs, f1, tf, fl, tg', inF, tx, tt, op, _, _, _, _, _, _, _, _, _, htr, _⟩ := hco'
    have J := GxR.inv_tab (more := #[rawInt gpos.line, rawInt gpos.col, .ref c']) (h' := h') (g' := s2.gens) (d' := s2.drawn) (t' := tk) I2 hP (fun b o hb e => hx b o hb e) htab'.2 I2.bare
    exact cont _ h' tk _ J ⟨⟨_, upd_same, htr⟩, fun b hb => upd_ne hb⟩ fun b hb o e => hx b o (fun z => by
      have := (f2 b hb).1
      rw [z, hP] at this
      cases this) e
  | some cv =>
    refine wpAny_genexprCode_hit hcode (cd.code hPs ht) hf ?_
    exact cont cv s2.heap s2.toks H2 (by exact I2) ⟨⟨ps, hP, ht⟩, fun _ _ => rfl⟩ fun _ _ _ e => e
end
end GE
namespace GE
open PySem PySem.Spec PyProof.Rows L2
section
variable {X : Cx}
theorem bb_all : bootBuiltins "all" = some (.builtin "all") := by decide +kernel
theorem bb_any : bootBuiltins "any" = some (.builtin "any") := by decide +kernel
theorem pe_all {c P : Addr} {elt tg iter : Expr} {gpos p pos : Pos} {scope : Scope} {own : List (Str × Nat)} {wi : TI} {gt : TG} {te : TE} {k : Nat}
    (hr : Room (k + 1) X.A) (hgl : Gl X "all") (hm : X.mg "all" = none) (TB : GxR.TabB X.base X.mg c P) (hcode : X.env.code = .ref c) (hc : X.calm = true) (hN : X.N.Nodup) (hi : PI X tg iter wi) (ok : BlkOk X.N X.env.scope scope own) (gk : GOk scope)
    (hg : ∀ A' s H C code cl fp pn, PG (GBlk X scope A' s H C code cl fp pn) tg gt) (he : ∀ A' s H C code cl fp pn, Room k A' → PE (GBlk X scope A' s H C code cl fp pn) elt te)
    (hs : ∀ v, genFold iter X.env v = pure v)
    (hz : starEach [.GeneratorExp elt [⟨tg, iter, [], 0⟩] scope gpos] X.env = (false, eval (.GeneratorExp elt [⟨tg, iter, [], 0⟩] scope gpos) X.env) :: starEach [] X.env := by rfl) :
    PE X (.Call (.Name "all" p) [.GeneratorExp elt [⟨tg, iter, [], 0⟩] scope gpos] [] pos) (tGen allF P wi gt te (own.map (·.2))) := by
  refine ⟨fun pins s σ H Q I h => wpAny_Call_Name_kw (ld_blt I hgl hm bb_all ?_)⟩
  refine PyProof.Rows.callWith_builtin1 ?_ hz (by rfl)
  rw [hz]
  show wpAny _ _ (spliced ((false, eval (.GeneratorExp elt [⟨tg, iter, [], 0⟩] scope gpos) X.env) :: backTo pos (starEach [] X.env))) _ _ s
  refine Calls.spliced_cons (gen_made hr TB hcode hc hN hi ok gk hg he hs I h fun a s5 hM => ?_)
  obtain ⟨Z, fp, tn, W, n, pz, g, e1, e2, hgen, hG, hfin⟩ := hM
  obtain ⟨_, J0, _⟩ := hG.1
  refine Calls.spliced_nil (call_function_tree F.kind_all F.plain_all F.entry_all (F.args_all1 _) ?_)
  unfold Builtin.«all»
  refine wpAny_bind (m := oneArg "all" _) (wpAny_pure (wpAny_bind (wpAny_pyIter_gen (hgen J0) (wpAny_pure ⟨plainId_quiet F.plain_all_loop _, ?_⟩))))
  have hd := hr.dp
  have L := loop_all (p := pz) (B0 := X.A) (R := fun r s' => ∃ v, r = .ok (.ret v) ∧ ∃ u H', Inv X pins σ H' s' ∧ RelV u v ∧ Q u H') rfl hr.hd (by omega) hgen n 0 s5 (Nat.sub_zero n) (Nat.zero_le n) hG fun s' f => ?_
  · rw [e1, e2] at L
    refine codeAny_mono L fun r s' ⟨v, hv, hx⟩ => ?_
    subst hv
    exact hx
  · obtain ⟨H', I', q⟩ := hfin s' f
    refine ⟨_, rfl, _, H', I', ?_, q⟩
    show Value.bool _ = Value.bool _
    rw [List.drop_zero]
    rfl
theorem pe_any {c P : Addr} {elt tg iter : Expr} {gpos p pos : Pos} {scope : Scope} {own : List (Str × Nat)} {wi : TI} {gt : TG} {te : TE} {k : Nat}
    (hr : Room (k + 1) X.A) (hgl : Gl X "any") (hm : X.mg "any" = none) (TB : GxR.TabB X.base X.mg c P) (hcode : X.env.code = .ref c) (hc : X.calm = true) (hN : X.N.Nodup) (hi : PI X tg iter wi) (ok : BlkOk X.N X.env.scope scope own) (gk : GOk scope)
    (hg : ∀ A' s H C code cl fp pn, PG (GBlk X scope A' s H C code cl fp pn) tg gt) (he : ∀ A' s H C code cl fp pn, Room k A' → PE (GBlk X scope A' s H C code cl fp pn) elt te)
    (hs : ∀ v, genFold iter X.env v = pure v)
    (hz : starEach [.GeneratorExp elt [⟨tg, iter, [], 0⟩] scope gpos] X.env = (false, eval (.GeneratorExp elt [⟨tg, iter, [], 0⟩] scope gpos) X.env) :: starEach [] X.env := by rfl) :
    PE X (.Call (.Name "any" p) [.GeneratorExp elt [⟨tg, iter, [], 0⟩] scope gpos] [] pos) (tGen anyF P wi gt te (own.map (·.2))) := by
  refine ⟨fun pins s σ H Q I h => wpAny_Call_Name_kw (ld_blt I hgl hm bb_any ?_)⟩
  refine PyProof.Rows.callWith_builtin1 ?_ hz (by rfl)
  rw [hz]
  show wpAny _ _ (spliced ((false, eval (.GeneratorExp elt [⟨tg, iter, [], 0⟩] scope gpos) X.env) :: backTo pos (starEach [] X.env))) _ _ s
  refine Calls.spliced_cons (gen_made hr TB hcode hc hN hi ok gk hg he hs I h fun a s5 hM => ?_)
  obtain ⟨Z, fp, tn, W, n, pz, g, e1, e2, hgen, hG, hfin⟩ := hM
  obtain ⟨_, J0, _⟩ := hG.1
  refine Calls.spliced_nil (call_function_tree F.kind_any F.plain_any F.entry_any (F.args_any1 _) ?_)
  unfold Builtin.«any»
  refine wpAny_bind (m := oneArg "any" _) (wpAny_pure (wpAny_bind (wpAny_pyIter_gen (hgen J0) (wpAny_pure ⟨plainId_quiet F.plain_any_loop _, ?_⟩))))
  have hd := hr.dp
  have L := loop_any (p := pz) (B0 := X.A) (R := fun r s' => ∃ v, r = .ok (.ret v) ∧ ∃ u H', Inv X pins σ H' s' ∧ RelV u v ∧ Q u H') rfl hr.hd (by omega) hgen n 0 s5 (Nat.sub_zero n) (Nat.zero_le n) hG fun s' f => ?_
  · rw [e1, e2] at L
    refine codeAny_mono L fun r s' ⟨v, hv, hx⟩ => ?_
    subst hv
    exact hx
  · obtain ⟨H', I', q⟩ := hfin s' f
    refine ⟨_, rfl, _, H', I', ?_, q⟩
    show Value.bool _ = Value.bool _
    rw [List.drop_zero]
    rfl
end
end GE

set_option Elab.async false
set_option linter.all false
set_option maxRecDepth 100000
set_option maxHeartbeats 2000000
set_option autoImplicit false
/-! Dg2: all, any of a generator expression, over data. -/
namespace D
open PySem PySem.Spec PyProof.Rows L2 GE
section
variable {K : PySem.W.Frag} {tb : Tbs} {b : Bx tb} {G H H' : Hp} {σ : L2.St} {S S1 : List Sl} {α : Type} {xs : List α} {enc : α → PyData} {vs js : List Nat} {g : TG} {P : Addr}
/-- a table has grown -/
theorem StOk.grown (h : StOk K b G H σ S) (hP : (P, ("" : Str)) ∈ tb) (hun : ∀ q ∈ tb, q.1 = P → q.2 = "") (ht : GxR.Tabbed P H H') : ∃ G', StOk K b G' H' σ S ∧ Ex G G' := by
  obtain ⟨ps0, g0, t0⟩ := (h.tabs _ hP).g
  obtain ⟨ps1, e1, t1⟩ := h.sub P _ g0
  obtain ⟨⟨ps, e2, t2⟩, off⟩ := ht
  have x : Ex G (upd G P (.tbl ps)) := fun a o e => by
    by_cases c : a = P
    · subst c
      rw [g0] at e
      cases e
      exact ⟨ps, upd_same, fun _ => t2⟩
    · rw [upd_ne c, e]; exact kp_refl o
  refine ⟨upd G P (.tbl ps), h.move (fun q hq => ?_) x (fun a o e => ?_) (fun a o e => ?_) (fun a e => ?_) (fun a e => ?_) (fun i q w => ?_), x⟩
  · by_cases c : q.1 = P
    · exact ⟨by rw [c]; exact ⟨ps, upd_same, t2⟩, fun n => absurd (hun q hq c) n⟩
    · refine ⟨x.tab (h.tabs q hq).g, fun n => ?_⟩
      obtain ⟨⟨ps', k1, k2, k3⟩, k4⟩ := (h.tabs q hq).l n
      refine ⟨⟨ps', by rw [upd_ne c]; exact k1, k2, fun pos cv hc => ?_⟩, by rw [upd_ne c, off _ c]; exact k4⟩
      obtain ⟨d, e1, e2⟩ := k3 pos cv hc
      refine ⟨d, e1, ?_⟩
      rw [upd_ne (fun z => by rw [z, g0] at e2; exact LamX.codeO_ne _ (Option.some.inj e2).symm)]
      exact e2
  · by_cases c : a = P
    · subst c
      rw [upd_same] at e
      cases e
      rw [e2]; exact kp_refl _
    · rw [upd_ne c] at e
      rw [off a c]; exact h.sub a o e
  · by_cases c : a = P
    · subst c
      have q := h.base a o e
      rw [e1] at q
      cases o <;> first | (obtain ⟨p', z, t'⟩ := q; exact ⟨ps, e2, fun _ => t2⟩) | cases (show some _ = some _ from q)
    · rw [off a c]; exact h.base a o e
  · by_cases c : a = P
    · subst c; rw [e2] at e; cases e
    · rw [off a c] at e; exact h.nw a e
  · by_cases c : a = P
    · subst c; exact h.gn a (by rw [g0]; intro z; cases z)
    · rw [upd_ne c] at e; exact h.gn a e
  · have hn : q ≠ P := fun z => by
      have := (h.ownB w).2.1
      rw [z, g0] at this; cases this
    exact ⟨off q hn, by rw [upd_ne hn]; exact (h.ownB w).2.1⟩
def geE (tb : Tbs) (K : PySem.W.Frag) (xs : List α) (F : α → List Sl → List Sl) (T0 : List Sl) (p : α → Bool) : TE := fun σ H Q => ∃ (b : Bx tb) (x : α), x ∈ xs ∧ tE K b (F x T0) (.val (.bool (p x))) (F x T0) σ H Q
def nthB (xs : List α) (p : α → Bool) (i : Nat) : Bool := match xs[i]? with
  | some x => p x
  | none => false
theorem nthB_at {p : α → Bool} {i : Nat} (h : i < xs.length) : nthB xs p i = p xs[i] := by
  unfold nthB
  rw [List.getElem?_eq_getElem h]
theorem nthB_map (p : α → Bool) : (List.range xs.length).map (nthB xs p) = xs.map p := by
  refine List.ext_getElem (by simp) fun i h1 h2 => ?_
  rw [List.getElem_map, List.getElem_map, List.getElem_range]
  exact nthB_at (by simpa using h2)
theorem allF_nth (p : α → Bool) : allF (nthB xs p) xs.length = xs.all p := by
  unfold allF
  have h1 : (List.range xs.length).all (nthB xs p) = ((List.range xs.length).map (nthB xs p)).all id := by rw [List.all_map]; rfl
  have h2 : xs.all p = (xs.map p).all id := by rw [List.all_map]; rfl
  rw [h1, h2, nthB_map]
theorem anyF_nth (p : α → Bool) : anyF (nthB xs p) xs.length = xs.any p := by
  unfold anyF
  have h1 : (List.range xs.length).any (nthB xs p) = ((List.range xs.length).map (nthB xs p)).any id := by rw [List.any_map]; rfl
  have h2 : xs.any p = (xs.map p).any id := by rw [List.any_map]; rfl
  rw [h1, h2, nthB_map]
theorem gen_sem {F : α → List Sl → List Sl} {p : α → Bool} {fold : (Nat → Bool) → Nat → Bool} (hP : (P, ("" : Str)) ∈ tb) (hun : ∀ q ∈ tb, q.1 = P → q.2 = "")
    (gd : ∀ b : Bx tb, ∀ x ∈ xs, GD K b g (enc x) (F x) js) (hj : ∀ j ∈ js, j ∈ vs) (hw : ∀ x ∈ xs, wipeS (F x (wipeS S1 vs)) vs = wipeS S1 vs) (no : NoOwn S1 vs)
    (σ : L2.St) (H : Hp) (Q : VK) (h : tE K b S (.val (.bool (fold (nthB xs p) xs.length))) S1 σ H Q) :
    tGen fold P (tI K b S (xs.map enc) NoC S1) g (geE tb K xs F (wipeS S1 vs) p) vs σ H Q := by
  obtain ⟨G, st, q⟩ := h
  refine ⟨G, st, fun J G2 H2 st2 x2 _ w => ⟨st2.sub.tab (st2.tabs _ hP).g, fun H3 htab => ?_⟩⟩
  obtain ⟨G3, st3, x3⟩ := st2.grown hP hun htab
  have hlen : (xs.map enc).length = xs.length := List.length_map ..
  refine ⟨xs.length, nthB xs p, fun _ H' => ∃ G', StOk K b G' H' (wipe σ vs) (wipeS S1 vs) ∧ Ex G3 G', ⟨G3, st3.wipe vs, Ex.refl _⟩, ⟨?_, ?_, ?_⟩, ?_⟩
  · rintro i H' hi ⟨G', st', x'⟩
    exact w.goes b i G' H' _ _ (x3.trans x') st' trivial (by rw [hlen]; exact hi)
  · rintro i H' hi ⟨G', st', x'⟩ v H4 y
    have hx : xs[i]? = some xs[i] := List.getElem?_eq_getElem hi
    obtain ⟨G4, st4, x4, r4⟩ := w.yields b i (enc xs[i]) G' H' _ _ v H4 (x3.trans x') st' trivial (by rw [List.getElem?_map, hx] <;> rfl) y
    refine gd b xs[i] (List.getElem_mem hi) G4 H4 _ _ v _ st4 r4 fun σ5 st5 w5 => ?_
    have hwp : wipe σ5 vs = wipe σ vs := (w5 vs hj).trans (wipe_wipe σ vs vs fun _ h => h)
    refine ⟨hwp, b, xs[i], List.getElem_mem hi, G4, st5, fun u G6 H6 st6 x6 r6 => ?_⟩
    refine ⟨?_, G6, ?_, x'.trans (x4.trans x6)⟩
    · rw [nthB_at hi]
      cases r6
      rfl
    · have s10 := st6.wipe vs
      rw [hw _ (List.getElem_mem hi), hwp] at s10
      exact s10
  · rintro H' ⟨G', st', x'⟩
    have := w.stops b G' H' _ _ (x3.trans x') st' trivial
    rwa [hlen] at this
  · rintro j H' hj' ⟨G', st', x'⟩
    have s10 := st3.back st' x' no
    rw [back_self] at s10
    exact q _ G' H' s10 (x2.trans (x3.trans x')) (.bl _)
end
section
variable {X : Cx} {tb : Tbs} {b : Bx tb} {S S1 : List Sl} {tg it elt : Expr} {α : Type} {xs : List α} {enc : α → PyData} {js : List Nat} {g : TG} {scope : Scope} {own : List (Str × Nat)} {F : α → List Sl → List Sl} {pos gpos pp : Pos} {c P : Addr} {k : Nat}
theorem geE_run {p : α → Bool} {T0 : List Sl} (he : ∀ (b : Bx tb) (x : α), x ∈ xs → ∀ A' s H C code cl fp pn, Room k A' → E (GBlk X scope A' s H C code cl fp pn) b (F x T0) elt (.val (.bool (p x))) (F x T0)) :
    ∀ A' s H C code cl fp pn, Room k A' → PE (GBlk X scope A' s H C code cl fp pn) elt (geE tb X.K xs F T0 p) := fun A' s H C code cl fp pn hr =>
  ⟨fun pins s1 σ H1 Q I ⟨b, x, hx, q⟩ => (he b x hx A' s H C code cl fp pn hr).run pins s1 σ H1 Q I q⟩
/-- where a def's code object stands, and its table -/
structure TbN (base : Heap) (mg : Str → Option Value) (tb : Tbs) (cd : Value) (c P : Addr) (nm : Str) : Prop where
  cd : cd = .ref c
  tab : GxR.TabB base mg c P
  mem : (P, nm) ∈ tb
  un : ∀ q ∈ tb, q.1 = P → q.2 = nm
abbrev Tb1 (base : Heap) (mg : Str → Option Value) (tb : Tbs) (cd : Value) (c P : Addr) : Prop := TbN base mg tb cd c P ""
def gokB (scope : Scope) : Bool := !scope.isCoroutine && (scope.names.all fun y => match y.2 with | .cell => false | _ => true) && (match scope.names.lookup (".0" : Str) with | some .local => true | _ => false)
theorem gok_by {scope : Scope} (h : gokB scope = true) : GOk scope := by
  unfold gokB at h
  simp only [Bool.and_eq_true, List.all_eq_true] at h
  obtain ⟨⟨h1, h2⟩, h3⟩ := h
  refine ⟨by simpa using h1, fun y hy z => ?_, ?_⟩
  · have := h2 y hy
    rw [z] at this
    cases this
  · split at h3
    · assumption
    · cases h3
theorem E_all (p : α → Bool) (hr : Room (k + 1) X.A) (hm : X.mg "all" = none) (t1 : Tb1 X.base X.mg tb X.env.code c P) (hc : X.calm = true) (hN : X.N.Nodup) (hi : IT X b S tg it (xs.map enc) NoC S1) (ok : BlkOk X.N X.env.scope scope own) (gk : gokB scope = true)
    (hg : ∀ A' s H C code cl fp pn, PG (GBlk X scope A' s H C code cl fp pn) tg g) (gd : ∀ b : Bx tb, ∀ x ∈ xs, GD X.K b g (enc x) (F x) js) (hj : ∀ j ∈ js, j ∈ own.map (·.2))
    (he : ∀ (b : Bx tb) (x : α), x ∈ xs → ∀ A' s H C code cl fp pn, Room k A' → E (GBlk X scope A' s H C code cl fp pn) b (F x (wipeS S1 (own.map (·.2)))) elt (.val (.bool (p x))) (F x (wipeS S1 (own.map (·.2)))))
    (hw : ∀ x ∈ xs, wipeS (F x (wipeS S1 (own.map (·.2)))) (own.map (·.2)) = wipeS S1 (own.map (·.2))) (no : noOwnB S1 (own.map (·.2)) = true) (hgl : Gl X "all" := by rfl) (hs : ∀ v, genFold it X.env v = pure v := by intro _; rfl)
    (hz : starEach [.GeneratorExp elt [⟨tg, it, [], 0⟩] scope gpos] X.env = (false, eval (.GeneratorExp elt [⟨tg, it, [], 0⟩] scope gpos) X.env) :: starEach [] X.env := by rfl) :
    E X b S (.Call (.Name "all" pp) [.GeneratorExp elt [⟨tg, it, [], 0⟩] scope gpos] [] pos) (.val (.bool (xs.all p))) S1 :=
  PE.w (pe_all hr hgl hm t1.tab t1.cd hc hN hi ok (gok_by gk) hg (geE_run he) hs hz) fun σ H Q h => gen_sem t1.mem t1.un gd hj hw (NoOwn.of no) σ H Q (by rw [allF_nth]; exact h)
theorem E_any (p : α → Bool) (hr : Room (k + 1) X.A) (hm : X.mg "any" = none) (t1 : Tb1 X.base X.mg tb X.env.code c P) (hc : X.calm = true) (hN : X.N.Nodup) (hi : IT X b S tg it (xs.map enc) NoC S1) (ok : BlkOk X.N X.env.scope scope own) (gk : gokB scope = true)
    (hg : ∀ A' s H C code cl fp pn, PG (GBlk X scope A' s H C code cl fp pn) tg g) (gd : ∀ b : Bx tb, ∀ x ∈ xs, GD X.K b g (enc x) (F x) js) (hj : ∀ j ∈ js, j ∈ own.map (·.2))
    (he : ∀ (b : Bx tb) (x : α), x ∈ xs → ∀ A' s H C code cl fp pn, Room k A' → E (GBlk X scope A' s H C code cl fp pn) b (F x (wipeS S1 (own.map (·.2)))) elt (.val (.bool (p x))) (F x (wipeS S1 (own.map (·.2)))))
    (hw : ∀ x ∈ xs, wipeS (F x (wipeS S1 (own.map (·.2)))) (own.map (·.2)) = wipeS S1 (own.map (·.2))) (no : noOwnB S1 (own.map (·.2)) = true) (hgl : Gl X "any" := by rfl) (hs : ∀ v, genFold it X.env v = pure v := by intro _; rfl)
    (hz : starEach [.GeneratorExp elt [⟨tg, it, [], 0⟩] scope gpos] X.env = (false, eval (.GeneratorExp elt [⟨tg, it, [], 0⟩] scope gpos) X.env) :: starEach [] X.env := by rfl) :
    E X b S (.Call (.Name "any" pp) [.GeneratorExp elt [⟨tg, it, [], 0⟩] scope gpos] [] pos) (.val (.bool (xs.any p))) S1 :=
  PE.w (pe_any hr hgl hm t1.tab t1.cd hc hN hi ok (gok_by gk) hg (geE_run he) hs hz) fun σ H Q h => gen_sem t1.mem t1.un gd hj hw (NoOwn.of no) σ H Q (by rw [anyF_nth]; exact h)
end
end D

set_option Elab.async false
set_option linter.all false
set_option maxRecDepth 100000
set_option maxHeartbeats 2000000
set_option autoImplicit false
/-! Dt: defs with a table of code objects; the end of a law with such tables. -/
namespace D
open PySem PySem.Spec PyProof.Rows L2
/-- the def st at f, its code object told -/
structure FunT (K : PySem.W.Frag) (x qual : Str) (st : Stmt) (f : Addr) (fd : FuncData) (cd : Value) : Prop where
  ex : ∃ (oc : Value) (od : Option Addr) (kV doc pm : Value) (an : Option Addr) (ct : Value) (osl : Array (Option Value)),
    fd = PySem.W.fnOf x qual (defArgs st) (defBody st) (defScope st) .none kV doc pm an cd ct ∧ K.lookup f = some ⟨oc, od, .func fd, osl⟩ ∧ PySem.W.codeIn K cd qual = true
  kp : PySem.W.keepIn K (.ref f) = true
theorem FunT.fn {K : PySem.W.Frag} {x qual : Str} {st : Stmt} {f : Addr} {fd : FuncData} {cd : Value} (F : FunT K x qual st f fd cd) : Fun K x qual st f fd := by
  obtain ⟨⟨oc, od, kV, doc, pm, an, ct, osl, e, l, c⟩, k⟩ := F
  exact ⟨⟨oc, od, kV, doc, pm, an, cd, ct, osl, e, l, c⟩, k⟩
theorem funT_mk {K : PySem.W.Frag} {x qual : Str} {st : Stmt} {f : Addr} {oc : Value} {od an : Option Addr} {osl : Array (Option Value)} {kV doc pm cdv ct : Value} (l : K.lookup f = some ⟨oc, od, .func (PySem.W.fnOf x qual (defArgs st) (defBody st) (defScope st) .none kV doc pm an cdv ct), osl⟩)
    (c : PySem.W.codeIn K cdv qual = true) (k : PySem.W.keepIn K (.ref f) = true) : FunT K x qual st f (PySem.W.fnOf x qual (defArgs st) (defBody st) (defScope st) .none kV doc pm an cdv ct) cdv := ⟨⟨oc, od, kV, doc, pm, an, ct, osl, rfl, l, c⟩, k⟩
section
variable {P : Program} {w : World} {K : PySem.W.Frag} {tb : Tbs} {mg : Str → Option Value} {base : Heap} {x qual : Str} {st : Stmt} {f : Addr} {fd : FuncData} {cd : Value} {N ps : List Str} {k : Nat}
theorem fn_mkT {pre : List PyData → PyData → Prop} (F : FunT K x qual st f fd cd) (S : FnScope N ps (defScope st)) (len : ∀ ds d, pre ds d → ds.length = ps.length)
    (body : ∀ (A : Around) (outer : List Env) (s : Shared) (H : Hp) (E : XK) (b : Bx tb) (ds : List PyData) (d : PyData), Room k (A.deeper (envOfC qual (defScope st) s.heap.objs.size f cd)) → pre ds d →
      SS (cxOf CX0 P w K mg base N qual (defScope st) f cd A outer s H E).nox b (slots0 N (ds.map Sl.val)) (defBody st) (poV d)) : FnOk P w K mg base CX0 (k + 1) f fd ps (spV K tb pre) := by
  obtain ⟨⟨oc, od, kV, doc, pm, an, ct, osl, rfl, lk, hcd⟩, _⟩ := F
  refine fn_of lk hcd S (fun vs H Q E h => ?_) (fun A outer s H vs Q E hr h => ?_)
  · obtain ⟨G, ds, d, hp, _, _, r, _⟩ := h
    rw [r.length]; exact len ds d hp
  · obtain ⟨G, ds, d, hp, ht, x, r, q⟩ := h
    refine ⟨_, (body A outer s H E ⟨H, G, H, W0⟩ ds d hr hp).nox, G, st_start x ht r, ?_, ?_, ?_, ?_, ?_⟩
    · intro G2 H2 σ2 S2 st2 x2 hd
      have hd' : d = .none := hd
      subst hd'
      exact q .non G2 H2 st2.tabs st2.g0 st2.gn st2.sub st2.base st2.nw .non
    · intro v G2 H2 σ2 S2 d2 st2 x2 rv hd
      have hd' : d2 = d := hd
      subst hd'
      exact q v G2 H2 st2.tabs st2.g0 st2.gn st2.sub st2.base st2.nw rv
    · exact fun _ _ _ _ _ _ z => z.elim
    · exact fun _ _ _ _ _ _ z => z.elim
    · exact fun _ _ _ _ _ _ _ _ _ _ z => z.elim
theorem fd_mkT {pre : List PyData → PyData → Prop} (F : FunT K x qual st f fd cd) (S : FnScope N ps (defScope st)) (hm : mg x = some (.ref f))
    (hb : ∀ (kV doc pm : Value) (an : Option Addr) (cdv ct : Value) (us : List Value), us.length = ps.length → bindArgs (PySem.W.fnOf x qual (defArgs st) (defBody st) (defScope st) .none kV doc pm an cdv ct) ⟨us, []⟩ = pure (ps.zip us))
    (len : ∀ ds d, pre ds d → ds.length = ps.length)
    (body : ∀ (A : Around) (outer : List Env) (s : Shared) (H : Hp) (E : XK) (b : Bx tb) (ds : List PyData) (d : PyData), Room k (A.deeper (envOfC qual (defScope st) s.heap.objs.size f cd)) → pre ds d →
      SS (cxOf CX0 P w K mg base N qual (defScope st) f cd A outer s H E).nox b (slots0 N (ds.map Sl.val)) (defBody st) (poV d)) : Fd P w K mg base (k + 1) x ps (spV K tb pre) :=
  ⟨f, fd, fn_mkT F S len body, hm, F.kp, F.fn.binds hb⟩
end
/-! ### the end -/
/-- what a code object's fields tell: its table -/
def codeTab (vs : Array Value) : Option Addr := match vs[11]?, vs.getD 18 Value.none, vs.getD 7 Value.none, vs.getD 9 Value.none, vs.getD 10 Value.none with
  | some (Value.ref P), Value.str _ _, Value.int _ _, Value.bool _, Value.int _ _ => some P
  | _, _, _, _, _ => none
/-- the def named x: its code object at c, the table at P, as the module's own objects tell -/
def TabIn (K : PySem.W.Frag) (mg : Str → Option Value) (x : Str) (c P : Addr) : Prop := ∃ (f : Addr) (o : Obj) (fd : FuncData) (dd : Option Addr) (vs : Array Value) (sl : Array (Option Value)),
  mg x = some (.ref f) ∧ K.lookup f = some o ∧ o.data = .func fd ∧ fd.code = .ref c ∧ K.lookup c = some ⟨.type "code", dd, .fields vs, sl⟩ ∧ codeTab vs = some P ∧ K.lookup P = none ∧ c ≠ P
theorem codeHd_of {h : Heap} {c P : Addr} {dd : Option Addr} {vs : Array Value} {sl : Array (Option Value)} (e : h.get? c = some ⟨.type "code", dd, .fields vs, sl⟩) (t : codeTab vs = some P) (ne : c ≠ P) : PySem.W.CodeHd h c P ∧ vs[11]? = some (.ref P) := by
  unfold codeTab at t
  split at t
  · rename_i P' file tf flags tg inF text tt h1 h2 h3 h4 h5
    cases t
    refine ⟨⟨_, vs, file, tf, flags, tg, inF, text, tt, e, rfl, rfl, h1, ?_, h2, h3, h4, h5, ne⟩, h1⟩
    rw [Array.getD_eq_getD_getElem?, h1]
    rfl
  · cases t
theorem law_walkT {l : PySem.W.OpenLaw} {q : Program} {loose : List Str} {XP : (Str → Option Value) → Heap → Prop} {YP : World → Heap → Prop} {d : DefRec} {K : Params → PySem.W.Frag} {k : Nat} {pre : List PyData → PyData → Prop} (hpre : ∀ ns : List Int, ns.length ≤ 63 → pre [scrD ns] (.bool true)) (hr : Room k callerA) (hn : l.most = some 63) (hdf : d.params.defaults = [])
    (hY : ∀ (w : World) (h : Heap), YP w h → (K w.params).In h) (names : List Str) (hrec : (names.all fun x => (recsOf q).any fun e => e.name == x) = true)
    (F : ∀ (w : World) (mg : Str → Option Value) (fa : Addr) (h : Heap), (K w.params).In h → h.Ns mainGlobals mg → mg d.name = some (.ref fa) →
      ∃ (fd : FuncData) (cs : List (Addr × Addr)) (tb : Tbs), (∀ q ∈ tb, ∃ p ∈ cs, p.2 = q.1) ∧ (∀ p ∈ cs, ∃ x ∈ names, TabIn (K w.params) mg x p.1 p.2) ∧ (∀ (s : Shared) (u : Value), BindsTo s fd ⟨[u], []⟩ [("_law_script", u)]) ∧
        ∀ base : Heap, (K w.params).In base → base.Ns mainGlobals mg → (∀ p ∈ cs, GxR.TabB base mg p.1 p.2) → FnOk l.prog w (K w.params) mg base CX0 k fa fd ["_law_script"] (spV (K w.params) tb pre)) :
    PySem.W.WalkO q loose XP YP l.row.toRowW d [] (fun f vs => PySem.call f vs) := by
  refine Att.attach_callB hn hdf fun w s₀ s₁ mg mb fa o pm cd doc a vs ns G Y ho hd hcd hmg hobj hints hlen hbits hg => ?_
  have KX := hY w _ Y
  obtain ⟨fd, cs, tb, hcs, hT, hb, hF⟩ := F w mg fa _ KX G.T.g hmg
  have all : ∀ p ∈ cs, s₁.heap.get? p.2 = some { cls := .none, data := .fields #[] } ∧ (K w.params).lookup p.2 = none ∧ PySem.W.CodeHd s₁.heap p.1 p.2 := fun p hp => by
    obtain ⟨x, hx, f, o1, fd1, dd, vs1, sl, k1, k2, k3, k4, k5, k6, k7, k8⟩ := hT p hp
    obtain ⟨z1, z2⟩ := codeHd_of (KX _ _ k5) k6 k8
    refine ⟨?_, k7, z1⟩
    obtain ⟨dL, hm, hn1⟩ := List.any_eq_true.mp (List.all_eq_true.mp hrec x hx)
    have hn2 : dL.name = x := beq_iff_eq.mp hn1
    obtain ⟨a', o', fd', c', P', h1, h2, h3, h4, h5, h6⟩ := G.T.tab dL hm
    rw [hn2, k1] at h1
    cases h1
    have g1 := KX _ _ k2
    rw [g1] at h2
    cases h2
    rw [k3] at h3
    cases h3
    rw [k4] at h4
    cases h4
    obtain ⟨⟨oc, vc, e1, _, e3, e4⟩, hP⟩ := h6
    have g2 := KX _ _ k5
    rw [g2] at e1
    cases e1
    cases e3
    rw [z2] at e4
    cases e4
    exact hP
  refine LamX.law_callTs (cs := cs) (CX := CX0) (sp := spV (K w.params) tb pre) KX G.T.g G.T.b G.T.builtins G.T.nolimit hg (fun p hp => (all p hp).1) (fun p hp => (all p hp).2.1) (fun p hp => (all p hp).2.2) G.T.bmain hobj hints (Nat.le_trans hlen (by decide)) hr (fun base i n tab => hF base i n fun p hp => ⟨(tab p hp).code, (tab p hp).bm, (tab p hp).gP⟩) hb (fun H hH hS => ?_) fun H e s' z => z
  refine ⟨H, [scrD ns], .bool true, hpre ns hlen, fun q hq => ?_, Ex.refl H, .cons (.scr hS) .nil, fun v _ _ _ _ _ _ _ _ rv => by cases rv; rfl⟩
  obtain ⟨p, hp, e⟩ := hcs q hq
  exact ⟨by rw [← e]; exact ⟨#[], hH p hp, trivial⟩, fun _ => ⟨LamX.TabS.nil (by rw [← e]; exact hH p hp), rfl⟩⟩
end D

set_option Elab.async false
set_option linter.all false
set_option maxRecDepth 100000
set_option maxHeartbeats 1000000
set_option autoImplicit false
/-! losses -/
namespace Q
open PySem PySem.Spec PyProof.Rows L2 D
section
variable {P : Program} {w : World} {K : PySem.W.Frag} {tb : Tbs} {mg : Str → Option Value} {base : Heap} {f : Addr} {fd : FuncData} {cd : Value} {cT pT : Addr}

/-! is_loss: 0 box*, 1 value, 2 place, 3 one, 4 other -/
abbrev s_is_loss : Stmt := topS 18
theorem sc_is_loss : FnScope ["box", "value", "place", "one", "other"] ["box", "value"] (defScope s_is_loss) := ⟨rfl, rfl, rfl, by decide +kernel, rfl, by decide +kernel, by decide +kernel⟩
def preIsLoss (ds : List PyData) (d : PyData) : Prop := ∃ (ns : List Int) (v : PyData), ds = [dT ns, v] ∧ d = .bool (lossB ns.length v)
theorem isD_tuple {d : PyData} (h : isD d "tuple" = true) : ∃ xs, d = .tuple xs := by
  cases d with
  | tuple xs => exact ⟨xs, rfl⟩
  | dict kvs =>
    exfalso
    revert h
    unfold isD tyD
    split <;> simp_all
  | _ => cases h
theorem ok_is_loss (F : FunT K "is_loss" "is_loss" s_is_loss f fd cd) (t1 : Tb1 base mg tb cd cT pT) (hm : mg "is_loss" = some (.ref f)) (B : Bt mg) (F_is_number : Fd P w K mg base 1 "is_number" ["value", "low", "high"] (spV K tb preNum)) : Fd P w K mg base 3 "is_loss" ["box", "value"] (spV K tb preIsLoss) := by
  refine fd_mkT F sc_is_loss hm (fun _ _ _ _ _ _ us hl => match us, hl with | [_, _], _ => rfl) (fun ds d ⟨_, _, h, _⟩ => by rw [h]; rfl) fun A outer s H E b ds d hr hp => ?_
  obtain ⟨ns, v, rfl, rfl⟩ := hp
  by_cases ht : isD v "tuple" = true
  · obtain ⟨xs, rfl⟩ := isD_tuple ht
    refine B_ifR (c := !(xs.all fun d => numD d 0 ((ns.length : Int) - 1))) (T_to (W.t (W_or (T_not (T_val (E_isi B.isinstance B.tuple (E_name 1 rfl (pv 1)) bb_tuple rfl))) (fun _ => (W_or1 (T_not (T_val (E_all (own := [("place", 2)]) (xs := xs) (enc := id) (F := fun d S => S.set 2 (.val d)) (fun d => numD d 0 ((ns.length : Int) - 1)) hr B.all t1 rfl sc_is_loss.nd ((List.map_id xs).symm ▸ I_tup (E_name 1 rfl (pv 1))) (blkOk_by (N := ["box", "value", "place", "one", "other"]) (sc := defScope s_is_loss) (by decide +kernel)) (by decide +kernel) (fun _ _ _ _ _ _ _ _ => (pg_name (i := 2) sc_is_loss.nd rfl (Or.inl rfl))) (fun _ x hx => g_name) (by decide) (fun b x hx A' s H C code cl fp pn hr' => (E_call F_is_number hr' rfl (A_cons (E_name 2 rfl (pv 2)) (A_cons E_int (A_cons (E_sub (E_lenT B.len (E_name 0 rfl (pv 0))) E_int) A_nil))) ⟨x, 0, _, rfl, rfl⟩)) (fun _ _ => rfl) rfl))))))) (by rw [ht]; rfl)) (fun hc => ?_) (fun hc => ?_)
    · refine B_ret E_bool ?_
      show PyData.bool false = .bool (_ && _)
      have hc0 : (xs.all fun d => numD d 0 ((ns.length : Int) - 1)) = false := by simpa using hc
      rw [hc0, Bool.false_and]
    · have hc' : (xs.all fun d => numD d 0 ((ns.length : Int) - 1)) = true := by simpa using hc
      obtain ⟨L, rfl, hL⟩ := nums_of hc'
      refine B_ret (E_all (own := [("one", 3), ("other", 4)]) (xs := (L.map PyData.int).zip ((L.map PyData.int).drop 1)) (enc := fun q => PyData.tuple [q.1, q.2]) (F := fun q S => (S.set 3 (.val q.1)).set 4 (.val q.2)) (fun q => ltD q.1 q.2) hr B.all t1 rfl sc_is_loss.nd (I_zipT B.zip (E_name 1 rfl (pv 1)) (E_to (E_slT (E_name 1 rfl (pv 1)) (O_some E_int) O_none) (by rw [cut_1]))) (blkOk_by (N := ["box", "value", "place", "one", "other"]) (sc := defScope s_is_loss) (by decide +kernel)) (by decide +kernel) (fun _ _ _ _ _ _ _ _ => (pg_tup (n := 2) rfl (pgs_cons (pg_name (i := 3) sc_is_loss.nd rfl (Or.inl rfl)) (pgs_cons (pg_name (i := 4) sc_is_loss.nd rfl (Or.inl rfl)) pgs_nil)))) (fun _ x hx => (g_tup (n := 2) (g_cons g_name (g_cons g_name g_nil)))) (by decide) (fun b x hx A' s H C code cl fp pn hr' => ?_) (fun _ _ => rfl) rfl) ?_
      · obtain ⟨x1, x2⟩ := x
        obtain ⟨h1, h2⟩ := List.of_mem_zip hx
        obtain ⟨a1, _, rfl⟩ := List.mem_map.mp h1
        obtain ⟨a2, _, rfl⟩ := List.mem_map.mp (List.mem_of_mem_drop h2)
        exact E_lt (E_name 3 rfl (pv 3)) (E_name 4 rfl (pv 4))
      · show PyData.bool _ = .bool (_ && _)
        rw [hc', Bool.true_and]
  · have ht' : isD v "tuple" = false := by simpa using ht
    refine B_ifR (c := true) (T_to (W.t (W_or (c2 := false) (T_not (T_val (E_isi B.isinstance B.tuple (E_name 1 rfl (pv 1)) bb_tuple rfl))) (fun h => by rw [ht'] at h; cases h))) (by rw [ht']; rfl)) (fun hc => ?_) (fun hc => by cases hc)
    refine B_ret E_bool ?_
    have : lossB ns.length v = false := by
      cases v with
      | tuple xs => cases ht'
      | _ => rfl
    show PyData.bool false = .bool (lossB ns.length v)
    rw [this]

/-! need_loss: 0 box, 1 value -/
abbrev s_need_loss : Stmt := topS 19
theorem sc_need_loss : FnScope ["box", "value"] ["box", "value"] (defScope s_need_loss) := ⟨rfl, rfl, rfl, by decide +kernel, rfl, by decide +kernel, by decide +kernel⟩
def preNeedLoss (ds : List PyData) (d : PyData) : Prop := ∃ (ns : List Int) (v : PyData), ds = [dT ns, v] ∧ lossB ns.length v = true ∧ d = .none
theorem ok_need_loss (F : Fun K "need_loss" "need_loss" s_need_loss f fd) (hm : mg "need_loss" = some (.ref f)) (F_is_loss : Fd P w K mg base 3 "is_loss" ["box", "value"] (spV K tb preIsLoss)) : Fd P w K mg base 4 "need_loss" ["box", "value"] (spV K tb preNeedLoss) := by
  refine fd_mk F sc_need_loss hm (fun _ _ _ _ _ _ us hl => match us, hl with | [_, _], _ => rfl) (fun ds d ⟨_, _, h, _⟩ => by rw [h]; rfl) fun cdv A outer s H E b ds d hr hp => ?_
  obtain ⟨ns, v, rfl, hv, rfl⟩ := hp
  refine B_ifR (c := false) (T_to (T_not (T_val (E_call F_is_loss hr rfl (A_cons (E_name 0 rfl (pv 0)) (A_cons (E_name 1 rfl (pv 1)) A_nil)) ⟨ns, v, rfl, rfl⟩))) (by rw [hv]; rfl)) (fun hc => by cases hc) (fun hc => B_nil rfl)

/-! left_by: 0 box, 1 loss*, 2 place, 3 weight -/
abbrev s_left_by : Stmt := topS 20
theorem sc_left_by : FnScope ["box", "loss", "place", "weight"] ["box", "loss"] (defScope s_left_by) := ⟨rfl, rfl, rfl, by decide +kernel, rfl, by decide +kernel, by decide +kernel⟩
def preLeftBy (ds : List PyData) (d : PyData) : Prop := ∃ ns L : List Int, (ds = [dT ns, dT L] ∨ ds = [dT ns, dL L]) ∧ ns.length ≤ 1000 ∧ d = dT (leftV ns L)
theorem enumT_enc (ns : List Int) : ((ns.map PyData.int).zipIdx.map fun q => PyData.tuple [.int (q.2 : Int), q.1]) = ns.zipIdx.map fun q => PyData.tuple [.int (q.2 : Int), .int q.1] := by
  rw [List.zipIdx_map, List.map_map]
  rfl
theorem ok_left_by (F : Fun K "left_by" "left_by" s_left_by f fd) (hm : mg "left_by" = some (.ref f)) (B : Bt mg) : Fd P w K mg base 1 "left_by" ["box", "loss"] (spV K tb preLeftBy) := by
  refine fd_mk F sc_left_by hm (fun _ _ _ _ _ _ us hl => match us, hl with | [_, _], _ => rfl) (fun ds d ⟨_, _, h, _⟩ => by rcases h with h | h <;> rw [h] <;> rfl) fun cdv A outer s H E b ds d hr hp => ?_
  obtain ⟨ns, L, h, hz, rfl⟩ := hp
  have fin : PyData.tuple (((ns.zipIdx.filter fun q => !decide ((q.2 : Int) ∈ L)).map (·.1)).map PyData.int) = dT (leftV ns L) := by rw [left_enum _ ns L rfl]
  rcases h with rfl | rfl
  · exact B_ret (E_tupleL B.tuple (E_fz (E_lc (own := [("place", 2), ("weight", 3)]) (xs := ns.zipIdx) (enc := fun q => PyData.tuple [.int (q.2 : Int), .int q.1]) (F := fun q S => (S.set 2 (.val (.int (q.2 : Int)))).set 3 (.val (.int q.1))) (fun q => !decide ((q.2 : Int) ∈ L)) (·.1) PyData.int rfl sc_left_by.nd (enumT_enc ns ▸ I_enumT B.enumerate (E_name 0 rfl (pv 0))) (blkOk_by (N := ["box", "loss", "place", "weight"]) (sc := defScope s_left_by) (by decide +kernel)) (fun _ _ _ _ _ => (pg_tup (n := 2) rfl (pgs_cons (pg_name (i := 2) sc_left_by.nd rfl (Or.inl rfl)) (pgs_cons (pg_name (i := 3) sc_left_by.nd rfl (Or.inl rfl)) pgs_nil)))) (fun _ x hx => (g_tup (n := 2) (g_cons g_name (g_cons g_name g_nil)))) (by decide) (fun b x hx s H C cl fp => (pts_one (T_niT (E_name 2 rfl (pv 2)) (E_name 1 rfl (pv 1)) rfl))) (fun b x hx hp s H C cl fp => (E_name 3 rfl (pv 3))) (fun _ _ => rfl) (sz_lt (by rw [List.length_zipIdx]; omega)) rfl))) fin
  · exact B_ret (E_tupleL B.tuple (E_fz (E_lc (own := [("place", 2), ("weight", 3)]) (xs := ns.zipIdx) (enc := fun q => PyData.tuple [.int (q.2 : Int), .int q.1]) (F := fun q S => (S.set 2 (.val (.int (q.2 : Int)))).set 3 (.val (.int q.1))) (fun q => !decide ((q.2 : Int) ∈ L)) (·.1) PyData.int rfl sc_left_by.nd (enumT_enc ns ▸ I_enumT B.enumerate (E_name 0 rfl (pv 0))) (blkOk_by (N := ["box", "loss", "place", "weight"]) (sc := defScope s_left_by) (by decide +kernel)) (fun _ _ _ _ _ => (pg_tup (n := 2) rfl (pgs_cons (pg_name (i := 2) sc_left_by.nd rfl (Or.inl rfl)) (pgs_cons (pg_name (i := 3) sc_left_by.nd rfl (Or.inl rfl)) pgs_nil)))) (fun _ x hx => (g_tup (n := 2) (g_cons g_name (g_cons g_name g_nil)))) (by decide) (fun b x hx s H C cl fp => (pts_one (T_niL (E_name 2 rfl (pv 2)) (E_name 1 rfl (pv 1)) rfl))) (fun b x hx hp s H C cl fp => (E_name 3 rfl (pv 3))) (fun _ _ => rfl) (sz_lt (by rw [List.length_zipIdx]; omega)) rfl))) fin

/-! weigh: 0 box, 1 loss, 2 load, 3 found, 4 weight -/
abbrev s_weigh : Stmt := topS 21
theorem sc_weigh : FnScope ["box", "loss", "load", "found", "weight"] ["box", "loss", "load"] (defScope s_weigh) := ⟨rfl, rfl, rfl, by decide +kernel, rfl, by decide +kernel, by decide +kernel⟩
def preWeigh (ds : List PyData) (d : PyData) : Prop := ∃ (ns L : List Int) (load : Int), ds = [dT ns, dT L, .int load] ∧ IsBox ns ∧ LossOk ns.length L ∧ 0 ≤ load ∧ load ≤ ns.sum ∧ d = weighD (leftV ns L) load
theorem box_long {ns : List Int} (h : IsBox ns) : (∀ k, k ≤ ns.length → InLong ((ns.take k).sum)) ∧ (∀ n ∈ ns, InLong n) := by
  have h0 : ∀ x ∈ ns, 0 ≤ x := fun x hx => by have := h.pos x hx; omega
  have hs : ns.sum ≤ 1000 * ns.length := sum_le_mul fun x hx => (h.pos x hx).2
  have hh := h.hi
  refine ⟨fun k _ => ?_, fun n hn => ?_⟩
  · have a1 := sum_sub_le (List.take_sublist k ns) h0
    have a2 := sum_sub_le (List.nil_sublist (ns.take k)) fun x hx => h0 x (List.mem_of_mem_take hx)
    have a2' : 0 ≤ (ns.take k).sum := a2
    unfold InLong
    omega
  · have := h.pos n hn
    unfold InLong
    omega
theorem ok_weigh (F : Fun K "weigh" "weigh" s_weigh f fd) (hm : mg "weigh" = some (.ref f)) (B : Bt mg) (F_need_box : Fd P w K mg base 2 "need_box" ["value"] (spV K tb preNeedBox)) (F_need_loss : Fd P w K mg base 4 "need_loss" ["box", "value"] (spV K tb preNeedLoss)) (F_need_number : Fd P w K mg base 2 "need_number" ["value", "low", "high"] (spV K tb preNeedNum)) (F_left_by : Fd P w K mg base 1 "left_by" ["box", "loss"] (spV K tb preLeftBy)) : Fd P w K mg base 5 "weigh" ["box", "loss", "load"] (spV K tb preWeigh) := by
  refine fd_mk F sc_weigh hm (fun _ _ _ _ _ _ us hl => match us, hl with | [_, _, _], _ => rfl) (fun ds d ⟨_, _, _, h, _⟩ => by rw [h]; rfl) fun cdv A outer s H E b ds d hr hp => ?_
  obtain ⟨ns, L, load, rfl, hb, hL, l0, l1, rfl⟩ := hp
  have hh := hb.hi
  obtain ⟨bl1, bl2⟩ := box_long hb
  refine B_expr (E_call F_need_box (hr.mono (by decide)) rfl (A_cons (E_name 0 rfl (pv 0)) A_nil) ⟨ns, rfl, hb, rfl⟩) ?_
  refine B_expr (E_call F_need_loss hr rfl (A_cons (E_name 0 rfl (pv 0)) (A_cons (E_name 1 rfl (pv 1)) A_nil)) ⟨ns, _, rfl, lossB_ints.mpr hL, rfl⟩) ?_
  refine B_expr (E_call F_need_number (hr.mono (by decide)) rfl (A_cons (E_name 2 rfl (pv 2)) (A_cons E_int (A_cons (E_sumT rfl B.sum (E_name 0 rfl (pv 0)) bl1 bl2) A_nil))) ⟨_, _, _, rfl, by simp [numD]; omega, rfl⟩) ?_
  refine B_own 3 (E_lstD A_nil) sc_weigh.nd rfl (Or.inl rfl) ?_
  have hll : (leftV ns L).length ≤ 10 := by have := (leftV_sub ns L).length_le; omega
  have hrl : (leftV ns L).reverse.length ≤ 10 := by rw [List.length_reverse]; exact hll
  have hrev : ((leftV ns L).map PyData.int).reverse = (leftV ns L).reverse.map PyData.int := by rw [List.map_reverse]
  unfold weighD weighL
  generalize hls : leftV ns L = ls at hll hrl hrev ⊢
  let st : Nat → List Int × Int := fun i => (ls.reverse.take i).foldl tryW ([], load)
  have eEnd : st ls.reverse.length = ls.reverse.foldl tryW ([], load) := by
    show (ls.reverse.take ls.reverse.length).foldl tryW _ = _
    rw [List.take_length]
  refine B_then (Mid := fun S' => ∃ v4, S' = [.val (dT ns), .val (dT L), .val (.int (ls.reverse.foldl tryW ([], load)).2), .own true ((ls.reverse.foldl tryW ([], load)).1.map PyData.int), v4])
    (B_for (xs := ls.reverse) (enc := PyData.int) (F := fun x S => S.set 4 (.val (.int x))) (fun i S' => ∃ v4, S' = [.val (dT ns), .val (dT L), .val (.int (st i).2), .own true ((st i).1.map PyData.int), v4]) PassesOwn.never rfl (by rw [← hrev]; exact I_revT B.reversed (E_call F_left_by (hr.mono (by decide)) rfl (A_cons (E_name 0 rfl (pv 0)) (A_cons (E_name 1 rfl (pv 1)) A_nil)) ⟨ns, L, .inl rfl, by omega, by rw [hls]⟩)) (pg_name (i := 4) sc_weigh.nd rfl (Or.inl rfl)) (fun x hx => g_name) ⟨_, rfl⟩ (fun i x S' hx hI => ?_) (fun S' h => by rw [eEnd] at h; exact h)) (fun S' h => ?_)
  · obtain ⟨v4, rfl⟩ := hI
    have hs : st (i + 1) = tryW (st i) x := by
      show (ls.reverse.take (i + 1)).foldl tryW _ = _
      rw [take_succ' hx, List.foldl_append]
      rfl
    have hlen : (st i).1.length ≤ 10 := by
      have h1 := weigh_len (ls.reverse.take i) ([], load)
      have h2 : (ls.reverse.take i).length ≤ ls.reverse.length := by rw [List.length_take]; omega
      have h3 : (([] : List Int), load).1.length = 0 := rfl
      show ((ls.reverse.take i).foldl tryW ([], load)).1.length ≤ 10
      omega
    generalize st i = si at hs hlen ⊢
    obtain ⟨fo, lo⟩ := si
    replace hlen : fo.length ≤ 10 := hlen
    refine B_ifS (Sa := [.val (dT ns), .val (dT L), .val (.int (st (i + 1)).2), .own true ((st (i + 1)).1.map PyData.int), .val (.int x)]) (Sb := [.val (dT ns), .val (dT L), .val (.int (st (i + 1)).2), .own true ((st (i + 1)).1.map PyData.int), .val (.int x)]) (T_le (E_name 4 rfl (pv 4)) (E_name 2 rfl (pv 2))) (fun hc => ?_) (fun hc => ?_) (fun hc => B_nil ⟨_, rfl⟩) (fun hc => B_nil ⟨_, rfl⟩)
    · refine B_app 3 rfl (pv 3) (E_name 4 rfl (pv 4)) rfl (sz_lt (by show (List.map PyData.int fo).length < 100000; rw [List.length_map]; omega)) ?_
      refine B_aug 2 rfl (E_name 4 rfl (pv 4)) ip_sub sc_weigh.nd rfl (Or.inl rfl) (B_nil ?_)
      rw [hs]
      unfold tryW
      rw [if_pos (of_decide_eq_true hc), List.map_append]
      rfl
    · refine B_nil ?_
      rw [hs]
      unfold tryW
      rw [if_neg (of_decide_eq_false hc)]
      rfl
  · obtain ⟨v4, rfl⟩ := h
    generalize ls.reverse.foldl tryW ([], load) = re
    obtain ⟨fo, lo⟩ := re
    refine B_ret (E_if (r := .val (if lo = 0 then dT fo else .none)) (T_eqi (E_name 2 rfl (pv 2)) E_int) (fun hc => E_to (E_tupleO 3 B.tuple rfl (pv 3)) (by rw [if_pos (of_decide_eq_true hc)])) (fun hc => E_to E_none (by rw [if_neg (of_decide_eq_false hc)]))) rfl
end
end Q

set_option Elab.async false
set_option linter.all false
set_option maxRecDepth 100000
set_option maxHeartbeats 1000000
set_option autoImplicit false
/-! Dz2: sorted of tuples of ints, the first of them the empty one. -/
namespace SZ
open PySem PySem.Spec PyProof.Rows L2
section
variable {prog : Program} {w : World} {A : Around} {E : Value → Shared → Prop} {s : Shared}
theorem TupV.typ {M : Model} {h : Heap} {v : Value} {ns : List Int} (x : TupV h v ns) : PySem.W.Looks M h (typeOf v) (.type "tuple") := by
  obtain ⟨a, o, its, c, rfl, h1, h2, h3, _⟩ := x
  have q : PySem.W.Looks M h (typeOf (.ref a)) o.cls := (PySem.W.Looks.ld h1).andThen .now
  rw [h2] at q
  exact q
/-- the first items: none for an empty tuple -/
theorem firsts_opt {Q : List (Option Value) → Shared → Prop} : ∀ {vs : List Value}, (∀ v ∈ vs, ∃ ns, TupV s.heap v ns) → (∀ os : List (Option Value), Paired (fun v o => TupV s.heap v [] → o = none) vs os → Q os s) → wpAny (model prog w) A (vs.mapM firstOfTuple') Q E s
  | [], _, h => by rw [List.mapM_nil]; exact wpAny_pure (h [] .nil)
  | v :: vs, hv, h => by
    rw [List.mapM_cons]
    obtain ⟨ns, x⟩ := hv v List.mem_cons_self
    refine wpAny_bind ?_
    rw [PySem.W.kas_first_eq]
    refine wpAny_bind ((TupV.typ x).here ?_)
    rw [if_neg (by decide +kernel)]
    have x' := x
    obtain ⟨a, o, its, c, rfl, h1, h2, h3, h4⟩ := x'
    refine wpAny_bind (listItems_at h1 h3 (wpAny_pure ?_))
    refine wpAny_bind (firsts_opt (fun u hu => hv u (List.mem_cons_of_mem _ hu)) fun os p => wpAny_pure (h _ (.cons (fun y => ?_) p)))
    have e : its = [] := by
      obtain ⟨a', o', its', c', e1, g1, g2, g3, g4⟩ := y
      cases e1
      rw [h1] at g1
      cases g1
      rw [h3] at g3
      have e2 : its.toArray = its'.toArray := by
        injection g3
      have e3 : its = its' := by simpa using e2
      rw [e3]
      cases g4
      rfl
    rw [e]
    rfl
theorem kind0 {v : Value} {vs : List Value} {Q : SortKind → Shared → Prop} (h0 : TupV s.heap v []) (hv : ∀ u ∈ vs, ∃ ns, TupV s.heap u ns) (h : Q oneType' s) : wpAny (model prog w) A (keyKind' (v :: vs).toArray) Q E s := by
  have hall : ∀ u ∈ v :: vs, ∃ ns, TupV s.heap u ns := fun u hu => by
    rcases List.mem_cons.mp hu with e | e
    · exact ⟨[], by rw [e]; exact h0⟩
    · exact hv u e
  rw [keyKind'_eq, List.mapM_toArray, map_eq_pure_bind]
  refine wpAny_bind (wpAny_bind (firsts_opt hall fun os p => wpAny_pure ?_))
  obtain ⟨os', rfl⟩ : ∃ os', os = none :: os' := by
    cases p with
    | cons r t =>
      rw [r h0]
      exact ⟨_, rfl⟩
  rw [if_neg (by simp), if_neg (by simp), oneTypeOnly'_eq, List.mapM_toArray, map_eq_pure_bind]
  refine wpAny_bind (wpAny_bind (wpAny_bind (PySem.W.kas_mapM (r := Value.type "tuple") _ (fun u hu Q' hq => ?_) (wpAny_pure ?_))))
  · obtain ⟨ns, x⟩ := hall u hu
    exact (TupV.typ x).here hq
  · have hall2 : ((List.map (fun _ => Value.type "tuple") (v :: vs)).toArray.all fun x => x == Value.type "tuple") = true := by
      simp only [List.all_toArray, List.all_map, List.all_eq_true]
      intro _ _
      show (Value.type "tuple" == Value.type "tuple") = true
      decide +kernel
    have e0 : (List.map (fun _ => Value.type "tuple") (v :: vs)).toArray[0]? = some (Value.type "tuple") := by simp
    rw [e0]
    simp only [hall2, if_true]
    exact wpAny_pure (wpAny_pure h)
theorem call_tlt {v u : Value} {ns ms : List Int} {Q : Value → Shared → Prop} (x : TupV s.heap v ns) (y : TupV s.heap u ms) (h : Q (.bool (HT.lexLt ns ms)) s) : wpAny (model prog w) A (call (.builtin "tuple.__lt__") ([v] ++ [u])) Q E s := by
  obtain ⟨a, ⟨c1, d1, dt1, sl1⟩, its, n1, rfl, h1, h2, h3, h4⟩ := x
  obtain ⟨b, ⟨c2, d2, dt2, sl2⟩, jts, n2, rfl, g1, g2, g3, g4⟩ := y
  simp only at h2 h3 g2 g3
  subst h2 h3 g2 g3
  refine wpAny_call (codeAny_call_builtin PySem.F.slot_tuple_lt.plain PySem.F.entry_tuple_lt (PySem.F.slot_tuple_lt.check _ _ _ _ _ _ _ _ ⟨_, h1, rfl⟩ (PySem.F.args_tuple_lt_2 _ _) ?_))
  refine wpAny_mono (HT.tuple_lt_ints a b its.toArray jts.toArray n1 n2 d1 d2 sl1 sl2 ns ms h4 g4 prog w _ (wants Q E) s ⟨h1, g1, h⟩) (fun fin s' q => ?_) fun _ _ z => z
  cases fin with
  | done f => exact q
  | again c => exact q
theorem lt_one {v u : Value} {ns ms : List Int} {Q : Bool → Shared → Prop} (hu : A.units < cLine) (x : TupV s.heap v ns) (y : TupV s.heap u ms) (h : Q (HT.lexLt ns ms) s) : wpAny (model prog w) A (keyLt' oneType' v u) Q E s := by
  have sp : PySem.W.Looks (model prog w) s.heap (specialOf v "__lt__") (some (.builtin "tuple.__lt__")) := (TupV.typ x).andThen (by have e := PySem.F.slot_tuple_lt.lookup; show PySem.W.Looks _ _ (typeLookup (.type "tuple") "__lt__") _; rw [show typeLookup (.type "tuple") ("__lt__" : Str) = pure (some (.builtin "tuple.__lt__")) from e]; exact .now)
  rw [keyLt'_oneType, oneLt'_eq]
  simp only [if_true]
  refine wpAny_bind (wpAny_cRoomFor hu ?_)
  exact wpAny_bind (NtL.csib (E := E) sp (PySem.F.slot_tuple_lt.bind _) (call_tlt x y (wpAny_truthy_bool h)))
end
end SZ

namespace SZ
open PySem PySem.Spec PyProof.Rows L2
def rSortedL0 (K : PySem.W.Frag) : List V → Hp → VK → Prop := fun vs H Q => ∃ (a : Addr) (xs : List V) (ts : List (List Int)) (R : V → List Int → Prop), vs = [V.ref a] ∧ SqL K H a xs ∧ Paired R xs ts ∧ (∀ v t, R v t → ∃ q, v = V.ref q ∧ SqT K H q (t.map V.int)) ∧ ts.head? = some [] ∧
  ∀ (ys : List V) (us : List (List Int)) (p : Addr), Paired R ys us → us.Perm ts → us.Pairwise (fun x y => HT.lexLt y x = false) → H p = none → Q (.ref p) (upd H p (.lst ys))
section
variable {X : Cx}
theorem cr_sortedL0 (hu : X.A.units + 64 < cLine) : CallR X (.builtin "sorted") (rSortedL0 X.K) := by
  intro pins s σ H vs us Q I r h
  obtain ⟨a, xs, ts, R, rfl, hs, hP, hR, hne, q⟩ := h
  have ht : TupsV X.K H xs ts := paired_mono hR hP
  obtain ⟨its, rv, hl, hz⟩ := I.list hs
  rw [Vals.ref1 r]
  obtain ⟨e1, e2⟩ := refs_of_tups ht rv
  have hlen := rv.length
  have hall : ∀ u ∈ its, ∃ t ns, u = .ref t ∧ SqT X.K H t (ns.map V.int) ∧ ns ∈ ts := fun u hu => by
    obtain ⟨b, rfl⟩ := e2 u hu
    have hm : V.ref b ∈ xs := by rw [e1]; exact List.mem_map.mpr ⟨_, hu, rfl⟩
    obtain ⟨ns, hns, t, et, hst⟩ := paired_mem ht _ hm
    cases et
    exact ⟨b, ns, rfl, hst, hns⟩
  refine SrtO.sorted_ord (NtL.swo_lexL (intsOf s.heap)) hl.isList (by omega) (fun h2 h₁ a' ha' kk => ?_) fun out h1 h2 => ?_
  · have hp : ∀ v ∈ its, ∃ ns, TupV h₁ v ns := fun v hv => by
      obtain ⟨t, ns, rfl, hst, hns⟩ := hall v hv
      exact ⟨ns, (tupV_of I hst).keep fun b o e _ => (kk b o e).2⟩
    obtain ⟨v0, vr, hv0⟩ : ∃ v0 vr, its = v0 :: vr := by
      cases its with
      | nil => simp at h2
      | cons v vr => exact ⟨v, vr, rfl⟩
    have h00 : TupV h₁ v0 [] := by
      cases ts with
      | nil => cases hne
      | cons t ts =>
        cases (Option.some.inj hne : t = [])
        subst hv0
        cases ht with
        | cons r rt =>
          cases rv with
          | cons u ur =>
            obtain ⟨c, rfl, hst⟩ := r
            cases u
            exact (tupV_of I hst).keep fun b o e _ => (kk b o e).2
    have na : ∀ o, h₁.get? a' = some o → o.cls ≠ .type "tuple" := fun o e => by
      have e' : some o = some (seqObj "list" its.toArray 0) := e.symm.trans ha'
      cases e'
      intro c
      exact absurd (Value.type.inj c) (by decide)
    have so : SrtO.SortableO X.prog X.w X.A.in1.in1 { s with heap := h₁ } a' its fun v u => HT.lexLt (intsOf h₁ v) (intsOf h₁ u) := by
      intro h' keep
      have kk2 : ∀ b o, h₁.get? b = some o → o.cls = .type "tuple" → h'.get? b = some o := fun b o e c => keep b o (fun z => by subst z; exact na o e c) e
      refine ⟨oneType', fun Q E hq => ?_, fun p q m1 m2 => ?_⟩
      · rw [hv0]
        rw [hv0] at hp
        exact kind0 (s := { s with heap := h' }) (h00.keep kk2) (fun u hu => let ⟨ns, x⟩ := hp u (List.mem_cons_of_mem _ hu); ⟨ns, x.keep kk2⟩) hq
      · obtain ⟨ns, x⟩ := hp _ m1
        obtain ⟨ms, y⟩ := hp _ m2
        show wpAny _ _ _ (fun r s' => s' = _ ∧ r = HT.lexLt (intsOf h₁ p.1) (intsOf h₁ q.1)) _ _
        rw [intsOf_eq x, intsOf_eq y]
        exact lt_one (s := { s with heap := h' }) (by show X.A.units + 1 + 1 < cLine; omega) (x.keep kk2) (y.keep kk2) ⟨rfl, rfl⟩
    intro h' keep
    obtain ⟨κ, k1, k2⟩ := so h' keep
    refine ⟨κ, k1, fun p q m1 m2 => ?_⟩
    have := k2 p q m1 m2
    have e : ∀ v, v ∈ its → intsOf h₁ v = intsOf s.heap v := fun v hv => by
      obtain ⟨t, ns, rfl, hst, _⟩ := hall v hv
      rw [intsOf_eq (tupV_of I hst), intsOf_eq ((tupV_of I hst).keep fun b o e _ => (kk b o e).2)]
    show wpAny _ _ _ (fun r s' => s' = _ ∧ r = HT.lexLt (intsOf s.heap p.1) (intsOf s.heap q.1)) _ _
    rw [← e _ m1, ← e _ m2]
    exact this
  · have hmem : ∀ u ∈ out, u ∈ its := fun u hu => h2.perm.mem_iff.mp hu
    have h3 : ∀ u ∈ out, ∃ a, u = Value.ref a := fun u hu => e2 u (hmem u hu)
    obtain ⟨ep, he'⟩ := PyProof.Rows.sortedAll_at s.heap its out.toArray
    have hsz : (out.map backO).length ≤ sizeLine := by rw [List.length_map, h2.len]; omega
    have hT : Paired R (out.map backO) (out.map (intsOf s.heap)) := paired_out fun u hu => by
      have hm : backO u ∈ xs := by rw [e1]; exact List.mem_map.mpr ⟨u, hmem u hu, rfl⟩
      obtain ⟨ns, _, hr⟩ := paired_mem hP _ hm
      obtain ⟨b, rfl⟩ := h3 u hu
      obtain ⟨t, et, hst⟩ := hR _ _ hr
      cases et
      rw [intsOf_eq (tupV_of I hst)]
      exact hr
    refine ⟨.ref _, upd H (s.heap.objs.size + 1) (.lst (out.map backO)), I.laid (t' := s.toks) (fun _ _ => PyProof.Rows.sortedAll_old) (Nat.le_succ _) ⟨hsz, out, ep, valsRefsK h3, he'⟩, rfl, q _ _ _ hT ?_ ?_ (I.hok.fresh (Nat.le_succ _))⟩
    · have := h2.perm.map (intsOf s.heap)
      rw [map_ints (fun t ns => tupV_of I) ht rv] at this
      exact this
    · exact List.pairwise_map.mpr (h1.imp fun {x y} z => z)
end
end SZ
namespace D
open PySem PySem.Spec PyProof.Rows L2
section
variable {X : Cx} {tb : Tbs} {b : Bx tb} {S S1 : List Sl} {e : Expr} {pos p : Pos}
/-- sorted of tuples of ints, the first of them () -/
theorem E_sortedL0 {ts us : List (List Int)} (hu : X.A.units + 64 < cLine) (hm : X.mg "sorted" = none) (ha : E X b S e (.val (dLT ts)) S1) (hne : ts.head? = some []) (h1 : us.Perm ts) (h2 : us.Pairwise (fun x y => HT.lexLt y x = false)) (hg : Gl X "sorted" := by rfl) (he : starEach [e] X.env = (false, eval e X.env) :: starEach [] X.env := by rfl) (hpl : (backTo pos (starEach [] X.env)).any (·.1) = false := by rfl) : E X b S (.Call (.Name "sorted" p) [e] [] pos) (.new (us.map dT)) S1 :=
  E_cb (pe_callB (SZ.cr_sortedL0 hu) hg hm bb_sorted (A_cons ha A_nil he) (by decide) (by decide) he hpl) fun G H σ vs Q st r q => by
    cases r with
    | cons r1 rn =>
      cases rn
      cases r1 with
      | @lst a ws _ h3 t =>
        refine ⟨_, ws, ts, fun v t => Rp X.K G v (dT t), rfl, .inl (st.sub.rd h3), rpa_tups t, fun v t rv => ?_, hne, fun ys vs p hP h4 h5 hp => ?_⟩
        · cases rv with
          | tup h6 a6 => rw [a6.ints] at h6; exact ⟨_, rfl, st.sub.sqT h6⟩
        · have e : vs = us := perm_one (fun x y z1 z2 => lex_anti x y z1 z2) (h4.trans h1.symm) h5 h2
          subst e
          have z := st.newL hp (tups_rpa hP)
          exact q _ _ _ z.1 (Ex.refl G) z.2
end
end D

set_option Elab.async false
set_option linter.all false
set_option autoImplicit false
/-! Pf: lots of places, what is reached. -/
namespace D
open PySem
/-- all lots of some places, as they are built -/
def powP (ps : List Int) : List (List Int) := ps.foldl (fun fo p => fo ++ fo.map fun t => t ++ [p]) [[]]
theorem powP_snoc (ps : List Int) (p : Int) : powP (ps ++ [p]) = powP ps ++ (powP ps).map fun t => t ++ [p] := by
  unfold powP
  rw [List.foldl_append]
  rfl
theorem powP_range : ∀ n : Nat, powP ((List.range n).map fun (i : Nat) => (i : Int)) = powV n
  | 0 => rfl
  | n + 1 => by
    rw [List.range_succ, List.map_append, List.map_singleton, powP_snoc, powP_range n]
    rfl
theorem powP_len : ∀ (k : Nat) (ps : List Int), ps.length = k → (powP ps).length = 2 ^ k
  | 0, ps, h => by rw [List.eq_nil_of_length_eq_zero h]; rfl
  | k + 1, ps, h => by
    obtain ⟨qs, p, rfl⟩ : ∃ l x, ps = l ++ [x] := ⟨_, _, (List.dropLast_concat_getLast (fun z => by rw [z] at h; cases h)).symm⟩
    have hl : qs.length = k := by simpa using h
    rw [powP_snoc, List.length_append, List.length_map, powP_len k qs hl, Nat.pow_succ]
    omega
theorem powP_mem : ∀ (k : Nat) (ps : List Int), ps.length = k → ∀ t ∈ powP ps, t.Sublist ps
  | 0, ps, h, t, ht => by
    rw [List.eq_nil_of_length_eq_zero h] at ht ⊢
    rw [List.mem_singleton.mp (show t ∈ [[]] from ht)]
    exact List.Sublist.refl _
  | k + 1, ps, h, t, ht => by
    obtain ⟨qs, p, rfl⟩ : ∃ l x, ps = l ++ [x] := ⟨_, _, (List.dropLast_concat_getLast (fun z => by rw [z] at h; cases h)).symm⟩
    have hl : qs.length = k := by simpa using h
    rw [powP_snoc] at ht
    rcases List.mem_append.mp ht with ht | ht
    · exact (powP_mem k qs hl t ht).trans (List.sublist_append_left _ _)
    · obtain ⟨u, hu, rfl⟩ := List.mem_map.mp ht
      exact (powP_mem k qs hl u hu).append (List.Sublist.refl _)
theorem powP_head : ∀ (k : Nat) (ps : List Int), ps.length = k → (powP ps).head? = some []
  | 0, ps, h => by rw [List.eq_nil_of_length_eq_zero h]; rfl
  | k + 1, ps, h => by
    obtain ⟨qs, p, rfl⟩ : ∃ l x, ps = l ++ [x] := ⟨_, _, (List.dropLast_concat_getLast (fun z => by rw [z] at h; cases h)).symm⟩
    have hl : qs.length = k := by simpa using h
    have ih := powP_head k qs hl
    rw [powP_snoc]
    cases e : powP qs with
    | nil => rw [e] at ih; cases ih
    | cons a l => rw [e] at ih; exact ih
def lexSort (ts : List (List Int)) : List (List Int) := ts.mergeSort fun x y => !HT.lexLt y x
theorem lexSort_perm (ts : List (List Int)) : (lexSort ts).Perm ts := List.mergeSort_perm _ _
theorem lexSort_up (ts : List (List Int)) : (lexSort ts).Pairwise (fun x y => HT.lexLt y x = false) := by
  have h := List.pairwise_mergeSort (le := fun x y : List Int => !HT.lexLt y x) lex_trans lex_total ts
  exact h.imp fun {a b} z => by simpa using z
theorem lex_one {ts us : List (List Int)} (h1 : ts.Perm us) (h2 : ts.Pairwise (fun x y => HT.lexLt y x = false)) (h3 : us.Pairwise (fun x y => HT.lexLt y x = false)) : ts = us :=
  perm_one (fun x y z1 z2 => lex_anti x y z1 z2) h1 h2 h3
theorem lossesV_lex (n l : Nat) : lossesV n l = lexSort (lossesR n l) := rfl
/-- sorting, then choosing; choosing, then sorting -/
theorem sort_filter (p : List Int → Bool) (ts : List (List Int)) : (lexSort ts).filter p = lexSort (ts.filter p) :=
  lex_one (((lexSort_perm ts).filter p).trans (lexSort_perm _).symm) ((lexSort_up ts).filter p) (lexSort_up _)
/-- losses_of's list ahead of its end -/
def lossB2 (l : Nat) : Nat → List (List Int)
  | 0 => [[]]
  | k + 1 => lossB2 l k ++ ((lossB2 l k).filter fun t => decide ((t.length : Int) < (l : Int))).map fun t => t ++ [(k : Int)]
theorem lossB2_eq (l : Nat) : ∀ k, lossB2 l k = (powV k).filter fun t => decide (t.length ≤ l)
  | 0 => by
    show [[]] = ([[]] : List (List Int)).filter _
    simp
  | k + 1 => by
    have ih := lossB2_eq l k
    show lossB2 l k ++ _ = (powV k ++ (powV k).map fun t => t ++ [(k : Int)]).filter _
    rw [ih, List.filter_append, List.filter_filter, List.filter_map]
    congr 1
    congr 1
    refine List.filter_congr fun t _ => ?_
    show (decide _ && decide _) = decide _
    rw [← Bool.decide_and]
    refine decide_eq_decide.mpr ?_
    simp only [List.length_append, List.length_singleton]
    omega
theorem lossB2_end (n l : Nat) : (lossB2 l n).filter (fun t => decide ((t.length : Int) = (l : Int))) = lossesR n l := by
  rw [lossB2_eq, List.filter_filter]
  unfold lossesR
  refine List.filter_congr fun t _ => ?_
  rw [← Bool.decide_and]
  refine decide_eq_decide.mpr ?_
  omega
theorem lossB2_len (l k : Nat) : (lossB2 l k).length ≤ 2 ^ k := by
  rw [lossB2_eq, ← powV_len k]
  exact List.length_filter_le _ _
/-- the reach, weight by weight -/
theorem grow_reach : ∀ (k : Nat) (ls : List Int), ls.length = k → ls.Pairwise (· ≤ ·) → (∀ x ∈ ls, 0 ≤ x) → ls.foldl growI 0 = reachV ls
  | 0, ls, h, _, _ => by
    rw [List.eq_nil_of_length_eq_zero h]
    decide
  | k + 1, ls, h, hp, h0 => by
    obtain ⟨ms, x, rfl⟩ : ∃ l x, ls = l ++ [x] := ⟨_, _, (List.dropLast_concat_getLast (fun z => by rw [z] at h; cases h)).symm⟩
    have hl : ms.length = k := by simpa using h
    rw [List.foldl_append, grow_reach k ms hl (List.pairwise_append.mp hp).1 (fun y hy => h0 y (List.mem_append_left _ hy)), reach_snoc hp h0]
    rfl
theorem sortI_id {ls : List Int} (h : ls.Pairwise (· ≤ ·)) : sortI ls = ls := (sortI_one (List.Perm.refl ls) h).symm
/-- what is lost still -/
def goneV (L t : List Int) : List Int := L.filter fun p => !decide (p ∈ t)
def lotsV (L : List Int) (m : Nat) : List (List Int) := lexSort ((powP L).filter fun t => decide ((t.length : Int) = (m : Int)))
def goodB (ns L : List Int) (load : Int) (t : List Int) : Bool := decide (load ≤ reachV (leftV ns (goneV L t)))
def someV (ns L : List Int) (load : Int) (m : Nat) : List (List Int) := (lotsV L m).filter (goodB ns L load)
/-- found_by -/
def foundV (ns L : List Int) (load : Int) : List Nat → List (List Int)
  | [] => []
  | m :: ms => if someV ns L load m = [] then foundV ns L load ms else someV ns L load m
def allGood (ns L : List Int) (load : Int) : List (List Int) := (lexSort (powP L)).filter (goodB ns L load)
theorem someV_all (ns L : List Int) (load : Int) (m : Nat) : someV ns L load m = (allGood ns L load).filter fun t => decide ((t.length : Int) = (m : Int)) := by
  unfold someV lotsV allGood
  rw [← sort_filter, List.filter_filter, List.filter_filter]
  refine List.filter_congr fun t _ => Bool.and_comm _ _
theorem minI_mem {ns : List Int} (h : ns ≠ []) : minI ns ∈ ns := (minI_spec h).1
theorem found_all (ns L : List Int) (load : Int) : foundV ns L load (List.range (L.length + 1)) = (allGood ns L load).filter fun t => decide ((t.length : Int) = minI ((allGood ns L load).map fun t => (t.length : Int))) := by
  have hb : ∀ t ∈ allGood ns L load, t.length ≤ L.length := fun t ht =>
    (powP_mem _ L rfl t ((lexSort_perm _).mem_iff.mp (List.mem_filter.mp ht).1)).length_le
  generalize hA : allGood ns L load = A at hb ⊢
  have hs : ∀ m, someV ns L load m = A.filter fun t => decide ((t.length : Int) = (m : Int)) := fun m => by rw [← hA]; exact someV_all ns L load m
  have gen : ∀ (k s : Nat), s + k = L.length + 1 → (∀ t ∈ A, s ≤ t.length) → foundV ns L load (List.range' s k) = A.filter fun t => decide ((t.length : Int) = minI (A.map fun t => (t.length : Int))) := by
    intro k
    induction k with
    | zero =>
      intro s hk hlo
      have : A = [] := by
        cases A with
        | nil => rfl
        | cons t A =>
          have h1 := hlo t List.mem_cons_self
          have h2 := hb t List.mem_cons_self
          omega
      rw [this]
      rfl
    | succ k ih =>
      intro s hk hlo
      rw [List.range'_succ]
      show (if someV ns L load s = [] then foundV ns L load (List.range' (s + 1) k) else someV ns L load s) = _
      rw [hs s]
      by_cases c : (A.filter fun t => decide ((t.length : Int) = (s : Int))) = []
      · rw [if_pos c]
        refine ih (s + 1) (by omega) fun t ht => ?_
        have h1 := hlo t ht
        have h2 : ¬ (t.length : Int) = (s : Int) := fun z => by
          have : t ∈ A.filter fun t => decide ((t.length : Int) = (s : Int)) := List.mem_filter.mpr ⟨ht, decide_eq_true z⟩
          rw [c] at this
          cases this
        omega
      · rw [if_neg c]
        obtain ⟨t, ht⟩ := List.exists_mem_of_ne_nil _ c
        obtain ⟨ht1, ht2⟩ := List.mem_filter.mp ht
        have e : minI (A.map fun t => (t.length : Int)) = (s : Int) := by
          refine minI_eq (List.mem_map.mpr ⟨t, ht1, of_decide_eq_true ht2⟩) fun y hy => ?_
          obtain ⟨u, hu, rfl⟩ := List.mem_map.mp hy
          have := hlo u hu
          omega
        rw [e]
  have := gen (L.length + 1) 0 (by omega) (fun _ _ => Nat.zero_le _)
  rwa [← List.range_eq_range'] at this
theorem box_pw {ns : List Int} (h : IsBox ns) : ns.Pairwise (· ≤ ·) := by
  have : ∀ (k : Nat) (ms : List Int), ms.length = k → (∀ (i : Nat) (x y : Int), ms[i]? = some x → ms[i + 1]? = some y → x ≤ y) → ms.Pairwise (· ≤ ·) := by
    intro k
    induction k with
    | zero => intro ms hm _; rw [List.eq_nil_of_length_eq_zero hm]; exact List.Pairwise.nil
    | succ k ih =>
      intro ms hm hu
      cases ms with
      | nil => exact List.Pairwise.nil
      | cons a ms =>
        have hp := ih ms (by simpa using hm) fun i x y h1 h2 => hu (i + 1) x y (by simpa using h1) (by simpa using h2)
        refine List.Pairwise.cons ?_ hp
        cases ms with
        | nil => intro _ h; cases h
        | cons c ms =>
          have h1 := hu 0 a c rfl rfl
          intro z hz
          rcases List.mem_cons.mp hz with rfl | hz
          · exact h1
          · exact Int.le_trans h1 ((List.pairwise_cons.mp hp).1 z hz)
  exact this _ ns rfl h.up
theorem lots_few (L : List Int) (m : Nat) : ((powP L).filter fun t => decide ((t.length : Int) = (m : Int))).length < 2 ∨ ∀ t ∈ (powP L).filter (fun t => decide ((t.length : Int) = (m : Int))), t ≠ [] := by
  by_cases c : m = 0
  · left
    subst c
    have : ∀ (k : Nat) (ps : List Int), ps.length = k → (powP ps).filter (fun t => decide ((t.length : Int) = ((0 : Nat) : Int))) = [[]] := by
      intro k
      induction k with
      | zero => intro ps h; rw [List.eq_nil_of_length_eq_zero h]; rfl
      | succ k ih =>
        intro ps h
        obtain ⟨qs, p, rfl⟩ : ∃ l x, ps = l ++ [x] := ⟨_, _, (List.dropLast_concat_getLast (fun z => by rw [z] at h; cases h)).symm⟩
        have hl : qs.length = k := by simpa using h
        rw [powP_snoc, List.filter_append, ih qs hl]
        have : ((powP qs).map fun t => t ++ [p]).filter (fun t => decide ((t.length : Int) = ((0 : Nat) : Int))) = [] := by
          refine List.filter_eq_nil_iff.mpr fun t ht => ?_
          obtain ⟨u, _, rfl⟩ := List.mem_map.mp ht
          simp only [List.length_append, List.length_singleton, decide_eq_true_eq]
          omega
        rw [this]
        rfl
    rw [this _ L rfl]
    decide
  · right
    intro t ht z
    have h2 := of_decide_eq_true (List.mem_filter.mp ht).2
    rw [z] at h2
    have : (0 : Int) = (m : Int) := h2
    omega
theorem foundV_drop {ns L : List Int} {load : Int} {ms : List Nat} {i m : Nat} (h : ms[i]? = some m) : foundV ns L load (ms.drop i) = if someV ns L load m = [] then foundV ns L load (ms.drop (i + 1)) else someV ns L load m := by
  obtain ⟨hi, e⟩ := List.getElem?_eq_some_iff.mp h
  rw [List.drop_eq_getElem_cons hi, e]
  rfl
/-- the draws of some places -/
def wAt (sc : List Int) (w : Dw) (m : Int) : Nat → Dw
  | 0 => w
  | n + 1 => (takenV sc (wAt sc w m n) m).2
theorem wAt_ok {sc : List Int} {w : Dw} {m : Int} (h : RowOk w) (hm : 0 < m) : ∀ n, RowOk (wAt sc w m n)
  | 0 => h
  | n + 1 => (takenV_ok (wAt_ok h hm n) hm).2.2
def someL (sc : List Int) (w : Dw) (m : Int) (n : Nat) : List Int := ((List.range n).filter fun i => decide ((takenV sc (wAt sc w m i) m).1 = 0)).map fun (i : Nat) => (i : Int)
theorem someL_ok (sc : List Int) (w : Dw) (m : Int) (n : Nat) : LossOk n (someL sc w m n) := by
  refine ⟨fun p hp => ?_, ?_⟩
  · obtain ⟨i, hi, rfl⟩ := List.mem_map.mp hp
    have := List.mem_range.mp (List.mem_filter.mp hi).1
    omega
  · refine List.pairwise_map.mpr (List.Pairwise.imp (R := (· < ·)) (fun h => by omega) ?_)
    exact List.Pairwise.sublist List.filter_sublist List.pairwise_lt_range
theorem someL_len (sc : List Int) (w : Dw) (m : Int) (n : Nat) : (someL sc w m n).length ≤ n := by
  have := List.length_filter_le (fun i => decide ((takenV sc (wAt sc w m i) m).1 = 0)) (List.range n)
  unfold someL
  rw [List.length_map]
  rw [List.length_range] at this
  exact this
end D

set_option Elab.async false
set_option linter.all false
set_option maxRecDepth 100000
set_option maxHeartbeats 1000000
set_option autoImplicit false
/-! Dl12: a comprehension over an own list. -/
namespace D
open PySem PySem.Spec PyProof.Rows L2
section
variable {X : Cx} {tb : Tbs} {b : Bx tb} {S : List Sl} {tg elt : Expr} {ifs : List Expr} {pos : Pos} {α β : Type} {xs : List α} {enc : α → PyData} {js : List Nat} {g : TG}
  {scope : Scope} {own : List (Str × Nat)} {F : α → List Sl → List Sl}
theorem E_lcO (k : Nat) {x : Str} {px : Pos} {l : Bool} (p : α → Bool) (f : α → β) (encB : β → PyData) (hc : X.calm = true) (hN : X.N.Nodup) (hk : S[k]? = some (.own l (xs.map enc))) (hx : PE X (.Name x px) (tVar k)) (hko : k ∉ own.map (·.2)) (ok : BlkOk X.N X.env.scope scope own) (hg : ∀ s H C cl fp, PG (Blk X scope s H C cl fp) tg g)
    (gd : ∀ b : Bx tb, ∀ x ∈ xs, GD X.K b g (enc x) (F x) js) (hj : ∀ j ∈ js, j ∈ own.map (·.2))
    (ht : ∀ (b : Bx tb) (x : α), x ∈ xs → ∀ s H C cl fp, PTs (Blk X scope s H C cl fp) ifs (tT X.K b (F x (wipeS S (own.map (·.2)))) (p x) (F x (wipeS S (own.map (·.2))))))
    (he : ∀ (b : Bx tb) (x : α), x ∈ xs → p x = true → ∀ s H C cl fp, E (Blk X scope s H C cl fp) b (F x (wipeS S (own.map (·.2)))) elt (.val (encB (f x))) (F x (wipeS S (own.map (·.2)))))
    (hw : ∀ x ∈ xs, wipeS (F x (wipeS S (own.map (·.2)))) (own.map (·.2)) = wipeS S (own.map (·.2)))
    (hz : xs.length < sizeLine) (no : noOwnB S (own.map (·.2)) = true) (hs : ∀ y, foldedSetIterable (.Name x px) X.env y = pure y := by intro _; rfl) :
    E X b S (.ListComp elt [⟨tg, .Name x px, ifs, 0⟩] scope pos) (.new (((xs.filter p).map f).map encB)) S := by
  have h := E_lcG (b := b) (pos := pos) (fun _ => wipeS S (own.map (·.2))) (fun _ x => p x) (fun _ x => encB (f x)) (fun _ x => F x (wipeS S (own.map (·.2)))) (fun _ x => F x (wipeS S (own.map (·.2)))) hc hN (I_own k hk hx) ok hg gd hj rfl
    (fun b i x hx => ht b x (List.mem_of_getElem? hx)) (fun b i x hx hp => he b x (List.mem_of_getElem? hx) hp) (fun i x hx => by have := hw x (List.mem_of_getElem? hx); by_cases c : p x = true <;> simp only [c, if_true, Bool.false_eq_true, if_false] <;> exact this) (fun σ _ _ _ => ⟨wipe_out' hko, by rw [wipeS_out hko]; exact hk⟩) hz no hs
  rw [back_self, lcOut_const] at h
  rw [List.map_map]
  exact h
/-- over a tuple or a list -/
theorem I_seq {S1 : List Sl} {e tg : Expr} {v : PyData} {ds : List PyData} (h : E X b S e (.val v) S1) (hv : v = .tuple ds ∨ v = .list ds) : IT X b S tg e ds NoC S1 := by
  rcases hv with rfl | rfl
  · exact I_tup h
  · exact I_list h
theorem T_niS {S1 S2 S3 : List Sl} {e f : Expr} {n : Int} {ns : List Int} {v : PyData} (hv : v = dT ns ∨ v = dL ns) (ha : E X b S1 e (.val (.int n)) S2) (hb : E X b S2 f (.val v) S3) (hm : behindInMarks .NotIn f = false) : T X b S1 (.Compare e [.NotIn] [f] pos) (!decide (n ∈ ns)) S3 := by
  rcases hv with rfl | rfl
  · exact T_niT ha hb hm
  · exact T_niL ha hb hm
theorem rgV_nat (k : Nat) : rgV 0 (k : Int) = ((List.range k).map fun (i : Nat) => (i : Int)).map V.int := by
  unfold rgV
  rw [show ((k : Int) - 0).toNat = k by omega, List.map_map]
  refine List.map_congr_left fun i _ => ?_
  show V.int (0 + (i : Int)) = V.int (i : Int)
  rw [Int.zero_add]
/-- list(range(k)) -/
theorem E_listRg {S1 : List Sl} {e : Expr} {n : Int} {k : Nat} {p p2 pos2 : Pos} (hc : X.calm = true) (hm : X.mg "list" = none) (hm2 : X.mg "range" = none) (ha : E X b S e (.val (.int n)) S1) (hn : n = (k : Int)) (hk : k ≤ 100000) (hg : Gl X "list" := by rfl) (hg2 : Gl X "range" := by rfl)
    (he : starEach [e] X.env = (false, eval e X.env) :: starEach [] X.env := by rfl) (he2 : starEach [.Call (.Name "range" p2) [e] [] pos2] X.env = (false, eval (.Call (.Name "range" p2) [e] [] pos2) X.env) :: starEach [] X.env := by rfl) :
    E X b S (.Call (.Name "list" p) [.Call (.Name "range" p2) [e] [] pos2] [] pos) (.new (((List.range k).map fun (i : Nat) => (i : Int)).map .int)) S1 := by
  subst hn
  refine PE.w (pe_listRg hc hg hm (prg_1 hg2 hm2 ha he) he2) fun σ H Q ⟨G, st, q⟩ => ⟨G, st, fun v G2 H2 st2 x2 r => by
    cases r
    refine ⟨_, rfl, RgOk.of_le (Int.le_refl _) (by omega) (by omega) (by omega), fun l hl => ?_⟩
    rw [rgV_nat]
    have z := st2.newL hl (RpA.ofInts (K := X.K) (G := G2) ((List.range k).map fun (i : Nat) => (i : Int)))
    exact q _ _ _ z.1 x2 z.2⟩
end
end D

set_option Elab.async false
set_option linter.all false
set_option maxRecDepth 100000
set_option maxHeartbeats 1000000
set_option autoImplicit false
/-! all losses of so many -/
namespace Q
open PySem PySem.Spec PyProof.Rows L2 D
section
variable {P : Program} {w : World} {K : PySem.W.Frag} {tb : Tbs} {mg : Str → Option Value} {base : Heap} {f : Addr} {fd : FuncData}

end
end Q

set_option Elab.async false
set_option linter.all false
set_option maxRecDepth 100000
set_option maxHeartbeats 1000000
set_option autoImplicit false
/-! Dl13: sorted of a list of alike data. -/
namespace SD
open PySem PySem.Spec PyProof.Rows L2
/-- sorted(xs), data that can be compared -/
def rSortedD (K : PySem.W.Frag) : List V → Hp → VK → Prop := fun vs H Q => ∃ (a : Addr) (xs : List V) (bs : List PyData) (R : V → PyData → Prop), vs = [V.ref a] ∧ SqL K H a xs ∧ Paired R xs bs ∧ (∀ v d, R v d → Dp K H v d) ∧ PySem.W.AllAlike bs ∧ PySem.W.Sortable bs ∧ (∀ d ∈ bs, d.depth ≤ 60) ∧
  ∀ (ys : List V) (p : Addr), Paired R ys (bs.mergeSort (PySem.W.dataLe false id)) → H p = none → Q (.ref p) (upd H p (.lst ys))
theorem each_of {R : V → PyData → Prop} : ∀ {xs : List V} {its : List Value} {bs : List PyData}, Vals xs its → Paired R xs bs → PySem.W.EachIs (fun u d => ∃ v, RelV v u ∧ R v d) its bs
  | _, _, _, .nil, .nil => .nil
  | _, _, _, .cons r t, .cons h hs => .cons ⟨_, r, h⟩ (each_of t hs)
theorem of_each {R : V → PyData → Prop} : ∀ {out : List Value} {bs : List PyData}, PySem.W.EachIs (fun u d => ∃ v, RelV v u ∧ R v d) out bs → ∃ ys, Vals ys out ∧ Paired R ys bs
  | _, _, .nil => ⟨[], .nil, .nil⟩
  | _, _, .cons ⟨v, r, h⟩ t => by
    obtain ⟨ys, h1, h2⟩ := of_each t
    exact ⟨v :: ys, .cons r h1, .cons h h2⟩
theorem each_mono {R R' : Value → PyData → Prop} (h : ∀ u d, R u d → R' u d) : ∀ {us : List Value} {bs : List PyData}, PySem.W.EachIs R us bs → PySem.W.EachIs R' us bs
  | _, _, .nil => .nil
  | _, _, .cons a t => .cons (h _ _ a) (each_mono h t)
section
variable {X : Cx}
theorem cr_sortedD (hu : X.A.units + 64 < cLine) : CallR X (.builtin "sorted") (rSortedD X.K) := by
  intro pins s σ H vs us Q I r h
  obtain ⟨a, xs, bs, R, rfl, hs, hP, hR, hal, hk, hd, q⟩ := h
  obtain ⟨its, rv, hl, hz⟩ := I.list hs
  rw [Vals.ref1 r]
  have e := each_of rv hP
  have hlen := rv.length
  have hlb : its.length = bs.length := e.length
  have er : PySem.W.EachIs (fun u d => ∃ as, Reads s.heap u (id d) as) its bs := each_mono (fun u d ⟨v, r1, r2⟩ => Dp.reads I d v u (hR _ _ r2) r1) e
  have hid : bs.map id = bs := List.map_id _
  refine PySem.W.sorted_data (enc := id) hl.isList e er (by rw [hid]; exact hal) (by rw [hid]; exact hk) (by omega) (fun d hdm => ?_) fun out hout eo => ?_
  · have := hd d hdm
    show X.A.units + 2 + d.depth < cLine
    omega
  · obtain ⟨ys, h1, h2⟩ := of_each eo
    obtain ⟨ep, he'⟩ := PyProof.Rows.sortedAll_at s.heap its out.toArray
    have hyl := h1.length
    exact ⟨.ref _, upd H (s.heap.objs.size + 1) (.lst ys), I.laid (t' := s.toks) (fun _ _ => PyProof.Rows.sortedAll_old) (Nat.le_succ _) ⟨by omega, out, ep, h1, he'⟩, rfl, q _ _ h2 (I.hok.fresh (Nat.le_succ _))⟩
end
end SD
namespace D
open PySem PySem.Spec PyProof.Rows L2
section
variable {X : Cx} {tb : Tbs} {b : Bx tb} {S S1 : List Sl} {e : Expr} {pos p : Pos}
theorem pair_rpa {K : PySem.W.Frag} {G : Hp} : ∀ {xs : List V} {ds : List PyData}, RpA K G xs ds → Paired (fun v d => Rp K G v d) xs ds
  | _, _, .nil => .nil
  | _, _, .cons h t => .cons h (pair_rpa t)
theorem rpa_pair {K : PySem.W.Frag} {G : Hp} {ds0 : List PyData} : ∀ {xs : List V} {ds : List PyData}, Paired (fun v d => Rp K G v d ∧ d ∈ ds0) xs ds → RpA K G xs ds
  | _, _, .nil => .nil
  | _, _, .cons h t => .cons h.1 (rpa_pair t)
theorem pair_mem {K : PySem.W.Frag} {G : Hp} {ds0 : List PyData} : ∀ {xs : List V} {ds : List PyData}, Paired (fun v d => Rp K G v d) xs ds → (∀ d ∈ ds, d ∈ ds0) → Paired (fun v d => Rp K G v d ∧ d ∈ ds0) xs ds
  | _, _, .nil, _ => .nil
  | _, _, .cons h t, hm => .cons ⟨h, hm _ List.mem_cons_self⟩ (pair_mem t fun d hd => hm d (List.mem_cons_of_mem _ hd))
/-- sorted(e) of data that can be compared -/
theorem E_sortedD {ds us : List PyData} (hu : X.A.units + 64 < cLine) (hm : X.mg "sorted" = none) (ha : E X b S e (.val (.list ds)) S1) (hal : PySem.W.AllAlike ds) (hk : PySem.W.Sortable ds) (hs : ∀ d ∈ ds, SeqAt.shaped d = true) (hd : ∀ d ∈ ds, d.depth ≤ 60) (hus : ds.mergeSort (PySem.W.dataLe false id) = us)
    (hg : Gl X "sorted" := by rfl) (he : starEach [e] X.env = (false, eval e X.env) :: starEach [] X.env := by rfl) (hpl : (backTo pos (starEach [] X.env)).any (·.1) = false := by rfl) : E X b S (.Call (.Name "sorted" p) [e] [] pos) (.new us) S1 :=
  E_cb (pe_callB (SD.cr_sortedD hu) hg hm bb_sorted (A_cons ha A_nil he) (by decide) (by decide) he hpl) fun G H σ vs Q st r q => by
    cases r with
    | cons r1 rn =>
      cases rn
      cases r1 with
      | @lst a ws _ h3 t =>
        refine ⟨_, ws, ds, fun v d => Rp X.K G v d ∧ d ∈ ds, rfl, .inl (st.sub.rd h3), pair_mem (pair_rpa t) (fun d h => h), fun v d rv => Rp.dp _ (rv.1.mono st.sub) (SeqAt.canLay_of_shaped (hs d rv.2)), hal, hk, hd, fun ys p hP hp => ?_⟩
        rw [hus] at hP
        have z := st.newL hp (rpa_pair hP)
        exact q _ _ _ z.1 (Ex.refl G) z.2
end
end D

set_option Elab.async false
set_option linter.all false
set_option autoImplicit false
/-! Pl: lots of a load, what breaks a load. -/
namespace D
open PySem
def sumV (ns t : List Int) : Int := (t.map fun p => ns.getD p.toNat 0).sum
def rngI (n : Nat) : List Int := (List.range n).map fun (i : Nat) => (i : Int)
def restV (n : Nat) (L : List Int) : List Int := (keepN n L).map fun (i : Nat) => (i : Int)
def lotsW (ns ps : List Int) (load : Int) : List (List Int) := (lexSort (powP ps)).filter fun t => decide (sumV ns t = load)
def meetsB (t L : List Int) : Bool := t.any fun p => decide (p ∈ L)
theorem restV_eq (n : Nat) (L : List Int) : restV n L = (rngI n).filter fun p => !decide (p ∈ L) := by
  unfold restV rngI keepN
  rw [List.filter_map]
  rfl
theorem restV_nil (n : Nat) : restV n [] = rngI n := by
  rw [restV_eq]
  refine List.filter_eq_self.mpr fun p _ => ?_
  rw [decide_eq_false (by simp)]
  rfl
theorem snoc_of {α : Type} {k : Nat} {ps : List α} (h : ps.length = k + 1) : ∃ l x, ps = l ++ [x] ∧ l.length = k := by
  obtain ⟨l, x, rfl⟩ : ∃ l x, ps = l ++ [x] := ⟨_, _, (List.dropLast_concat_getLast (fun z => by rw [z] at h; cases h)).symm⟩
  exact ⟨l, x, rfl, by simpa using h⟩
theorem powP_filter (q : Int → Bool) : ∀ (k : Nat) (ps : List Int), ps.length = k → (powP ps).filter (fun t => t.all q) = powP (ps.filter q)
  | 0, ps, h => by rw [List.eq_nil_of_length_eq_zero h]; rfl
  | k + 1, ps, h => by
    obtain ⟨qs, p, rfl, hl⟩ := snoc_of h
    have ih := powP_filter q k qs hl
    rw [powP_snoc, List.filter_append, ih, List.filter_append, List.filter_map]
    have e : ((fun t : List Int => t.all q) ∘ fun t => t ++ [p]) = fun t => t.all q && q p := by
      funext t
      simp [Function.comp]
    rw [e]
    by_cases c : q p = true
    · have e2 : (fun t : List Int => t.all q && q p) = fun t => t.all q := by funext t; rw [c, Bool.and_true]
      rw [e2, ih, List.filter_cons_of_pos c]
      show _ = powP (qs.filter q ++ [p])
      rw [powP_snoc]
    · have c' : q p = false := by simpa using c
      have e2 : (fun t : List Int => t.all q && q p) = fun _ => false := by funext t; rw [c', Bool.and_false]
      rw [e2, List.filter_cons_of_neg (by rw [c']; decide)]
      simp
theorem powP_of_sub : ∀ (k : Nat) (ps : List Int), ps.length = k → ∀ t, t.Sublist ps → t ∈ powP ps
  | 0, ps, h, t, ht => by
    rw [List.eq_nil_of_length_eq_zero h] at ht ⊢
    rw [List.sublist_nil.mp ht]
    exact List.mem_singleton.mpr rfl
  | k + 1, ps, h, t, ht => by
    obtain ⟨qs, p, rfl, hl⟩ := snoc_of h
    rw [powP_snoc]
    obtain ⟨u, v, rfl, h1, h2⟩ := List.sublist_append_iff.mp ht
    have ih := powP_of_sub k qs hl u h1
    cases h2 with
    | cons _ h3 =>
      rw [List.sublist_nil.mp h3, List.append_nil]
      exact List.mem_append_left _ ih
    | cons_cons _ h3 =>
      rw [List.sublist_nil.mp h3]
      exact List.mem_append_right _ (List.mem_map.mpr ⟨u, ih, rfl⟩)
theorem mem_powP {ps t : List Int} : t ∈ powP ps ↔ t.Sublist ps := ⟨powP_mem _ ps rfl t, powP_of_sub _ ps rfl t⟩
theorem mem_lexSort {ts : List (List Int)} {t : List Int} : t ∈ lexSort ts ↔ t ∈ ts := (lexSort_perm ts).mem_iff
theorem mem_lotsW {ns ps t : List Int} {load : Int} : t ∈ lotsW ns ps load ↔ t.Sublist ps ∧ sumV ns t = load := by
  unfold lotsW
  rw [List.mem_filter, mem_lexSort, mem_powP, decide_eq_true_eq]
/-- lots that stay clear of a loss -/
theorem lots_rest (ns : List Int) (n : Nat) (L : List Int) (load : Int) : (lotsW ns (rngI n) load).filter (fun t => !meetsB t L) = lotsW ns (restV n L) load := by
  unfold lotsW
  rw [List.filter_filter]
  have e : (fun t : List Int => (!meetsB t L) && decide (sumV ns t = load)) = fun t => decide (sumV ns t = load) && (t.all fun p => !decide (p ∈ L)) := by
    funext t
    rw [Bool.and_comm]
    congr 1
    unfold meetsB
    rw [List.not_any_eq_all_not]
  rw [e, ← List.filter_filter (p := fun t => decide (sumV ns t = load)), sort_filter, powP_filter _ _ _ rfl, restV_eq]
theorem all_meet (ns : List Int) (n : Nat) (L : List Int) (load : Int) : ((lotsW ns (rngI n) load).all fun t => meetsB t L) = (lotsW ns (restV n L) load).isEmpty := by
  rw [← lots_rest, Bool.eq_iff_iff, List.isEmpty_iff, List.filter_eq_nil_iff, List.all_eq_true]
  exact ⟨fun h t ht => by rw [h t ht]; decide, fun h t ht => by have := h t ht; simpa using this⟩
theorem sumV_snoc (ns t : List Int) (p : Int) : sumV ns (t ++ [p]) = sumV ns t + ns.getD p.toNat 0 := by
  unfold sumV
  rw [List.map_append, List.sum_append]
  simp
theorem leftV_rest (ns L : List Int) : leftV ns L = (restV ns.length L).map fun p => ns.getD p.toNat 0 := by
  unfold leftV restV
  rw [List.map_map]
  rfl
/-- some lot is left just when the load is weighed -/
theorem weighed_iff (ns L : List Int) (load : Int) : lotsW ns (restV ns.length L) load ≠ [] ↔ Sub (leftV ns L) load := by
  rw [leftV_rest]
  constructor
  · intro h
    obtain ⟨t, ht⟩ := List.exists_mem_of_ne_nil _ h
    obtain ⟨h1, h2⟩ := mem_lotsW.mp ht
    exact ⟨t.map fun p : Int => ns.getD p.toNat 0, h1.map _, h2⟩
  · rintro ⟨l, h1, h2⟩ z
    obtain ⟨t, h3, rfl⟩ := List.sublist_map_iff.mp h1
    have : t ∈ lotsW ns (restV ns.length L) load := mem_lotsW.mpr ⟨h3, h2⟩
    rw [z] at this
    cases this
theorem broken_iff (ns L : List Int) (load : Int) : (lotsW ns (restV ns.length L) load).isEmpty = true ↔ ¬ Sub (leftV ns L) load := by
  rw [List.isEmpty_iff, ← weighed_iff]
  exact ⟨fun h z => z h, fun h => Classical.byContradiction fun z => h z⟩
/-! ### the first of what breaks -/
def flatV (n : Nat) : List (List Int) := (List.range (n + 1)).flatMap fun k => lossesV n k
def brkB (ns : List Int) (load : Int) (L : List Int) : Bool := (lotsW ns (rngI ns.length) load).all fun t => meetsB t L
def brkV (ns : List Int) (load : Int) : Option (List Int) := (List.range (ns.length + 1)).findSome? fun k => (lossesV ns.length k).find? (brkB ns load)
theorem brkV_flat (ns : List Int) (load : Int) : (flatV ns.length).find? (brkB ns load) = brkV ns load := List.find?_flatMap
theorem brkB_iff {ns L : List Int} {load : Int} : brkB ns load L = true ↔ ¬ Sub (leftV ns L) load := by
  unfold brkB
  rw [all_meet, broken_iff]
theorem first_some {β : Type} {f : Nat → Option β} {c : β} : ∀ {m : Nat}, (List.range m).findSome? f = some c → ∃ s, s < m ∧ f s = some c ∧ ∀ x, x < s → f x = none
  | 0, h => by cases h
  | m + 1, h => by
    rw [List.range_succ, List.findSome?_append] at h
    cases e : (List.range m).findSome? f with
    | some d =>
      rw [e] at h
      have h' : some d = some c := h
      cases h'
      obtain ⟨s, h1, h2, h3⟩ := first_some e
      exact ⟨s, by omega, h2, h3⟩
    | none =>
      rw [e] at h
      have hn := List.findSome?_eq_none_iff.mp e
      refine ⟨m, by omega, ?_, fun x hx => hn x (List.mem_range.mpr hx)⟩
      have h' : (match f m with | some b => some b | none => none) = some c := h
      cases e2 : f m with
      | none => rw [e2] at h'; cases h'
      | some b => rw [e2] at h'; exact h'
structure Brk (ns : List Int) (load : Int) (L : List Int) : Prop where
  pow : L ∈ powV ns.length
  out : ¬ Sub (leftV ns L) load
  few : ∀ M ∈ powV ns.length, M.length < L.length → Sub (leftV ns M) load
theorem brkV_spec {ns L : List Int} {load : Int} (h : brkV ns load = some L) : Brk ns load L := by
  obtain ⟨s, h1, h2, h3⟩ := first_some h
  have hm := List.mem_of_find?_eq_some h2
  have hp := List.find?_some h2
  obtain ⟨m1, m2⟩ := mem_losses.mp hm
  refine ⟨m1, brkB_iff.mp hp, fun M hM hl => ?_⟩
  have hn := h3 M.length (by omega)
  have := List.find?_eq_none.mp hn M (mem_losses.mpr ⟨hM, rfl⟩)
  exact Classical.byContradiction fun z => this (brkB_iff.mpr z)
theorem full_pow (n : Nat) : rngI n ∈ powV n := by
  have := filter_pow (fun _ => true) n
  rwa [List.filter_eq_self.mpr (fun _ _ => rfl)] at this
theorem brkV_some {ns : List Int} {load : Int} (hl : 0 < load) : ∃ L, brkV ns load = some L := by
  cases e : brkV ns load with
  | some L => exact ⟨L, rfl⟩
  | none =>
    exfalso
    have hn := List.findSome?_eq_none_iff.mp e ns.length (List.mem_range.mpr (by omega))
    have hm : rngI ns.length ∈ lossesV ns.length ns.length := mem_losses.mpr ⟨full_pow _, by unfold rngI; rw [List.length_map, List.length_range]⟩
    refine List.find?_eq_none.mp hn _ hm (brkB_iff.mpr ?_)
    have hz : leftV ns (rngI ns.length) = [] := by
      rw [leftV_rest, restV_eq]
      have : (rngI ns.length).filter (fun p => !decide (p ∈ rngI ns.length)) = [] := List.filter_eq_nil_iff.mpr fun p hp => by rw [decide_eq_true hp]; decide
      rw [this]
      rfl
    rw [hz]
    rintro ⟨l, h1, h2⟩
    rw [List.sublist_nil.mp h1] at h2
    have : (0 : Int) = load := h2
    omega
/-! ### how many break it -/
theorem few_of_mem : ∀ (hs l : List Int), l.Nodup → (l.filter fun x => decide (x ∈ hs)).length ≤ hs.length
  | [], l, _ => by
    have : l.filter (fun x => decide (x ∈ ([] : List Int))) = [] := List.filter_eq_nil_iff.mpr fun x _ => by simp
    rw [this]
    exact Nat.le_refl _
  | h :: hs, l, hn => by
    have ih := few_of_mem hs l hn
    have : ∀ l : List Int, l.Nodup → (l.filter fun x => decide (x ∈ h :: hs)).length ≤ (l.filter fun x => decide (x ∈ hs)).length + 1 := by
      intro l hn
      induction l with
      | nil => exact Nat.zero_le _
      | cons a l ihl =>
        have hn' := List.nodup_cons.mp hn
        have ih2 := ihl hn'.2
        by_cases c : a = h
        · subst c
          have e : l.filter (fun x => decide (x ∈ a :: hs)) = l.filter (fun x => decide (x ∈ hs)) := List.filter_congr fun x hx => decide_eq_decide.mpr ⟨fun z => by
            rcases List.mem_cons.mp z with rfl | z
            · exact absurd hx hn'.1
            · exact z, fun z => List.mem_cons_of_mem _ z⟩
          rw [List.filter_cons, if_pos (decide_eq_true List.mem_cons_self), e, List.length_cons, List.filter_cons]
          split
          · rw [List.length_cons]; omega
          · exact Nat.le_refl _
        · have e : decide (a ∈ h :: hs) = decide (a ∈ hs) := decide_eq_decide.mpr ⟨fun z => by
            rcases List.mem_cons.mp z with z | z
            · exact absurd z c
            · exact z, fun z => List.mem_cons_of_mem _ z⟩
          rw [List.filter_cons, List.filter_cons, e]
          split
          · rw [List.length_cons, List.length_cons]; omega
          · exact ih2
    have := this l hn
    rw [List.length_cons]
    omega
theorem range_nodup (n : Nat) : (rngI n).Nodup := by
  have h : (rngI n).Pairwise (· < ·) := List.pairwise_map.mpr (List.Pairwise.imp (R := (· < ·)) (fun h => by omega) List.pairwise_lt_range)
  exact h.imp fun {a b} z => by omega
/-- no more get lost than there are lots -/
theorem brk_few {ns L : List Int} {load : Int} (hl : 0 < load) (h : Brk ns load L) : L.length ≤ (lotsW ns (rngI ns.length) load).length := by
  refine Classical.byContradiction fun c => ?_
  let hs := (lotsW ns (rngI ns.length) load).map fun t => t.headD 0
  let M := (rngI ns.length).filter fun x => decide (x ∈ hs)
  have hM : M ∈ powV ns.length := by
    have := filter_pow (fun (i : Nat) => decide ((i : Int) ∈ hs)) ns.length
    have e : M = ((List.range ns.length).filter fun (i : Nat) => decide ((i : Int) ∈ hs)).map fun (i : Nat) => (i : Int) := by
      show ((List.range ns.length).map fun (i : Nat) => (i : Int)).filter _ = _
      rw [List.filter_map]
      rfl
    rw [e]
    exact this
  have hlen : M.length ≤ hs.length := few_of_mem hs _ (range_nodup _)
  have hls : hs.length = (lotsW ns (rngI ns.length) load).length := List.length_map ..
  have hs := h.few M hM (by omega)
  refine (brkB_iff.mp ?_) hs
  unfold brkB
  rw [List.all_eq_true]
  intro t ht
  obtain ⟨h1, h2⟩ := mem_lotsW.mp ht
  cases t with
  | nil =>
    have : (0 : Int) = load := h2
    omega
  | cons p t =>
    refine List.any_eq_true.mpr ⟨p, List.mem_cons_self, decide_eq_true ?_⟩
    refine List.mem_filter.mpr ⟨h1.subset List.mem_cons_self, decide_eq_true ?_⟩
    exact List.mem_map.mpr ⟨p :: t, ht, rfl⟩
/-! ### strengths and safe loads -/
theorem getD_up {ns : List Int} (hp : ns.Pairwise (· ≤ ·)) {i j : Nat} (hij : i ≤ j) (hj : j < ns.length) : ns.getD i 0 ≤ ns.getD j 0 := by
  rw [List.getD_eq_getElem?_getD, List.getD_eq_getElem?_getD, List.getElem?_eq_getElem hj, List.getElem?_eq_getElem (Nat.lt_of_le_of_lt hij hj)]
  show ns[i] ≤ ns[j]
  by_cases c : i = j
  · subst c; exact Int.le_refl _
  · exact List.pairwise_iff_getElem.mp hp i j _ _ (by omega)
theorem take_mono {ns : List Int} (h0 : ∀ x ∈ ns, 0 ≤ x) {i j : Nat} (h : i ≤ j) : (ns.take i).sum ≤ (ns.take j).sum := by
  refine sum_sub_le ?_ fun x hx => h0 x (List.mem_of_mem_take hx)
  have := List.take_sublist i (ns.take j)
  rwa [List.take_take, Nat.min_eq_left h] at this
theorem safe_anti1 {ns : List Int} (hp : ns.Pairwise (· ≤ ·)) (h0 : ∀ x ∈ ns, 0 ≤ x) {l : Nat} (hl : l + 1 ≤ ns.length) : safeOf ns (l + 1) ≤ safeOf ns l := by
  obtain ⟨a1, a2, a3⟩ := gapOf_spec ns l
  obtain ⟨b1, b2, b3⟩ := gapOf_spec ns (l + 1)
  refine take_mono h0 (Classical.byContradiction fun c => ?_)
  have h1 := b2 (gapOf ns l) (by omega)
  have h2 := a3 (by omega)
  have h3 := getD_up hp (i := gapOf ns l + l) (j := gapOf ns l + (l + 1)) (by omega) (by omega)
  omega
theorem safe_anti {ns : List Int} (hp : ns.Pairwise (· ≤ ·)) (h0 : ∀ x ∈ ns, 0 ≤ x) {l : Nat} : ∀ d, l + d ≤ ns.length → safeOf ns (l + d) ≤ safeOf ns l
  | 0, _ => Int.le_refl _
  | d + 1, h => Int.le_trans (safe_anti1 hp h0 (l := l + d) (by omega)) (safe_anti hp h0 d (by omega))
/-- how many must get lost -/
def strI (ns : List Int) (load : Int) : Int := (((brkV ns load).getD []).length : Int)
theorem strI_eq {ns L : List Int} {load : Int} (h : brkV ns load = some L) : strI ns load = (L.length : Int) := by
  unfold strI
  rw [h]
  rfl
theorem strI_le {ns : List Int} {load : Int} (hl : 0 < load) : strI ns load ≤ ns.length := by
  obtain ⟨L, e⟩ := brkV_some (ns := ns) hl
  rw [strI_eq e]
  have := powV_leN _ _ (brkV_spec e).pow
  omega
theorem strong_safe {ns : List Int} (hp : ns.Pairwise (· ≤ ·)) (h0 : ∀ x ∈ ns, 0 ≤ x) {lost : Nat} (hl : lost ≤ ns.length) (top : Nat) : (∀ j : Nat, 1 ≤ j → j ≤ top → (lost : Int) < strI ns (j : Int)) ↔ (top : Int) ≤ safeOf ns lost := by
  constructor
  · intro h
    refine Classical.byContradiction fun c => ?_
    have he := safeL_eq hp h0 hl
    unfold safeL at he
    have hne : (lossesV ns.length lost).map (fun L => reachV (leftV ns L)) ≠ [] := fun z => losses_ne hl (List.map_eq_nil_iff.mp z)
    obtain ⟨M, hM, eM⟩ := List.mem_map.mp (minI_spec hne).1
    rw [he] at eM
    obtain ⟨r0, r1, r2⟩ := reachV_spec (leftV ns M)
    obtain ⟨m1, m2⟩ := mem_losses.mp hM
    have eM' : reachV (leftV ns M) = safeOf ns lost := eM
    obtain ⟨j, ej⟩ : ∃ j : Nat, reachV (leftV ns M) + 1 = (j : Int) := ⟨(reachV (leftV ns M) + 1).toNat, by omega⟩
    have hj := h j (by omega) (by omega)
    obtain ⟨L, e⟩ := brkV_some (ns := ns) (load := (j : Int)) (by omega)
    rw [strI_eq e] at hj
    have := (brkV_spec e).few M m1 (by omega)
    rw [← ej] at this
    exact r2 this
  · intro h j j1 j2
    refine Classical.byContradiction fun c => ?_
    obtain ⟨L, e⟩ := brkV_some (ns := ns) (load := (j : Int)) (by omega)
    rw [strI_eq e] at c
    have b := brkV_spec e
    have hs := safe_reach hp (mem_losses.mpr ⟨b.pow, rfl⟩)
    have ha := safe_anti hp h0 (l := L.length) (lost - L.length) (by omega)
    rw [show L.length + (lost - L.length) = lost by omega] at ha
    exact b.out ((reachV_spec (leftV ns L)).2.1 (j : Int) (by omega) (by omega))
/-! ### the order of pairs of a number and a lot -/
def pairD (t : List Int) : PyData := .tuple [.int (t.length : Int), .tuple (t.map .int)]
def sizeLe (s t : List Int) : Bool := decide (s.length < t.length) || (decide (s.length = t.length) && !HT.lexLt t s)
theorem lex_irr : ∀ t : List Int, HT.lexLt t t = false
  | [] => rfl
  | x :: t => by rw [HT.lexLt_cons, if_pos rfl]; exact lex_irr t
theorem eqv_list : ∀ s t : List Int, PyData.eqvAll (s.map .int) (t.map .int) = decide (s = t)
  | [], [] => rfl
  | [], _ :: _ => rfl
  | _ :: _, [] => rfl
  | a :: s, c :: t => by
    have ih := eqv_list s t
    show PyData.eqvAll (PyData.int a :: s.map .int) (PyData.int c :: t.map .int) = _
    rw [PyData.eqvAll, ih]
    by_cases h : a = c
    · subst h
      simp [PyData.eqv]
    · simp [PyData.eqv, h]
theorem dataLt_tups : ∀ s t : List Int, PySem.W.dataLt (.tuple (s.map .int)) (.tuple (t.map .int)) = HT.lexLt s t := by
  have go : ∀ s t : List Int, PyProof.Rows.lexLt PyProof.Rows.itemOrd (PySem.W.keyToksAll (s.map .int)) (PySem.W.keyToksAll (t.map .int)) = HT.lexLt s t := by
    intro s
    induction s with
    | nil =>
      intro t
      cases t with
      | nil => rfl
      | cons c t => rfl
    | cons a s ih =>
      intro t
      cases t with
      | nil => rfl
      | cons c t =>
        rw [HT.lexLt_cons]
        show PyProof.Rows.lexLt PyProof.Rows.itemOrd (PySem.W.keyToksAll (PyData.int a :: s.map .int)) (PySem.W.keyToksAll (PyData.int c :: t.map .int)) = _
        rw [PySem.W.dataLt_cons (x := .int a) (y := .int c) (by rfl), ih t]
        by_cases h : a = c
        · subst h
          rw [if_pos rfl, if_pos (by simp [PyData.eqv])]
        · rw [if_neg h, if_neg (by simp [PyData.eqv, h]), PySem.W.dataLt_int]
  intro s t
  rw [PySem.W.dataLt_tuple]
  exact go s t
theorem dataLe_pair : PySem.W.dataLe false pairD = sizeLe := by
  funext s t
  show (!PySem.W.dataLt (pairD t) (pairD s)) = _
  unfold pairD
  rw [PySem.W.dataLt_pair (by rfl) (by show PySem.W.alikeAll _ _ = true; exact PySem.W.alike_ints _ _), PySem.W.dataLt_int, dataLt_tups]
  unfold sizeLe
  have e1 : PyData.eqv (.int (t.length : Int)) (.int (s.length : Int)) = decide (s.length = t.length) := by
    show ((t.length : Int) == (s.length : Int)) = _
    rw [Bool.eq_iff_iff, beq_iff_eq, decide_eq_true_eq]
    omega
  have e2 : PyData.eqv (.tuple (t.map .int)) (.tuple (s.map .int)) = decide (t = s) := by
    rw [PyData.eqv, eqv_list]
  rw [e1, e2]
  by_cases c : s.length = t.length
  · rw [if_pos (decide_eq_true c)]
    by_cases c2 : t = s
    · subst c2
      rw [if_pos (decide_eq_true rfl), lex_irr]
      simp
    · rw [if_neg (by simpa using c2)]
      simp [c]
  · rw [if_neg (by simpa using c)]
    rw [decide_eq_false c, Bool.false_and, Bool.or_false]
    by_cases c2 : (t.length : Int) < (s.length : Int)
    · rw [decide_eq_true c2, decide_eq_false (by omega)]
      rfl
    · rw [decide_eq_false c2, decide_eq_true (by omega)]
      rfl
theorem sizeLe_iff {s t : List Int} : sizeLe s t = true ↔ s.length < t.length ∨ (s.length = t.length ∧ HT.lexLt t s = false) := by
  unfold sizeLe
  rw [Bool.or_eq_true, Bool.and_eq_true, decide_eq_true_eq, decide_eq_true_eq]
  simp
theorem sizeLe_trans (x y z : List Int) (h1 : sizeLe x y = true) (h2 : sizeLe y z = true) : sizeLe x z = true := by
  rw [sizeLe_iff] at h1 h2 ⊢
  rcases h1 with h1 | ⟨h1, a1⟩ <;> rcases h2 with h2 | ⟨h2, a2⟩
  · left; omega
  · left; omega
  · left; omega
  · right
    refine ⟨by omega, ?_⟩
    have := lex_trans x y z (by rw [a1]; rfl) (by rw [a2]; rfl)
    simpa using this
theorem sizeLe_total (x y : List Int) : (sizeLe x y || sizeLe y x) = true := by
  rw [Bool.or_eq_true, sizeLe_iff, sizeLe_iff]
  by_cases c : x.length = y.length
  · have := lex_total x y
    rw [Bool.or_eq_true] at this
    rcases this with h | h
    · exact .inl (.inr ⟨c, by simpa using h⟩)
    · exact .inr (.inr ⟨c.symm, by simpa using h⟩)
  · rcases Nat.lt_or_gt_of_ne c with h | h
    · exact .inl (.inl h)
    · exact .inr (.inl h)
theorem sizeLe_anti (x y : List Int) (h1 : sizeLe x y = true) (h2 : sizeLe y x = true) : x = y := by
  rw [sizeLe_iff] at h1 h2
  rcases h1 with h1 | ⟨h1, a1⟩ <;> rcases h2 with h2 | ⟨h2, a2⟩
  · omega
  · omega
  · omega
  · exact lex_anti x y a1 a2
theorem split_sizes (l : List (List Int)) : ∀ m, (l.filter fun t => decide (t.length < m)).Perm ((List.range m).flatMap fun k => l.filter fun t => decide (t.length = k))
  | 0 => by
    have : l.filter (fun t => decide (t.length < 0)) = [] := List.filter_eq_nil_iff.mpr fun t _ => by simp
    rw [this]
    exact List.Perm.refl _
  | m + 1 => by
    rw [List.range_succ, List.flatMap_append]
    have ih := split_sizes l m
    have h := List.filter_append_perm (fun t : List Int => decide (t.length < m)) (l.filter fun t => decide (t.length < m + 1))
    rw [List.filter_filter, List.filter_filter] at h
    have e1 : (fun t : List Int => decide (t.length < m) && decide (t.length < m + 1)) = fun t => decide (t.length < m) := by
      funext t
      rw [← Bool.decide_and]
      exact decide_eq_decide.mpr (by omega)
    have e2 : (fun t : List Int => !decide (t.length < m) && decide (t.length < m + 1)) = fun t => decide (t.length = m) := by
      funext t
      rw [← decide_not, ← Bool.decide_and]
      exact decide_eq_decide.mpr (by omega)
    rw [e1, e2] at h
    refine h.symm.trans (List.Perm.append ih ?_)
    rw [List.flatMap_singleton]
theorem flat_perm (n : Nat) : (flatV n).Perm (powV n) := by
  have h := split_sizes (powV n) (n + 1)
  rw [List.filter_eq_self.mpr fun t ht => decide_eq_true (by have := powV_leN n t ht; omega)] at h
  refine List.Perm.trans ?_ h.symm
  unfold flatV
  have : ∀ ks : List Nat, (ks.flatMap fun k => lossesV n k).Perm (ks.flatMap fun k => (powV n).filter fun t => decide (t.length = k)) := by
    intro ks
    induction ks with
    | nil => exact List.Perm.refl _
    | cons k ks ih =>
      rw [List.flatMap_cons, List.flatMap_cons]
      refine List.Perm.append ((lossesV_perm n k).trans ?_) ih
      unfold lossesR
      refine List.Perm.of_eq (List.filter_congr fun t _ => decide_eq_decide.mpr (by omega))
  exact this _
theorem flat_up (n : Nat) : (flatV n).Pairwise (fun x y => sizeLe x y = true) := by
  unfold flatV
  rw [List.pairwise_flatMap]
  refine ⟨fun k _ => ?_, ?_⟩
  · refine List.Pairwise.imp_of_mem (fun {a b} ha hb h => sizeLe_iff.mpr (.inr ⟨?_, h⟩)) (lossesV_up n k)
    rw [(mem_losses.mp ha).2, (mem_losses.mp hb).2]
  · refine List.Pairwise.imp (fun {k m} h x hx y hy => sizeLe_iff.mpr (.inl ?_)) List.pairwise_lt_range
    rw [(mem_losses.mp hx).2, (mem_losses.mp hy).2]
    exact h
theorem flat_sorted (n : Nat) : ((lexSort (powV n)).map pairD).mergeSort (PySem.W.dataLe false id) = (flatV n).map pairD := by
  rw [← List.map_mergeSort (r := sizeLe) (fun a _ b _ => by
    show sizeLe a b = PySem.W.dataLe false pairD a b
    rw [dataLe_pair])]
  congr 1
  refine perm_one (le := fun x y => sizeLe x y = true) sizeLe_anti ((List.mergeSort_perm _ _).trans ((lexSort_perm _).trans (flat_perm n).symm)) (List.pairwise_mergeSort sizeLe_trans sizeLe_total _) (flat_up n)
theorem pairs_alike (ts : List (List Int)) : PySem.W.AllAlike (ts.map pairD) := PySem.W.AllAlike.of fun a c => by
  show PySem.W.alikeAll [PyData.int _, PyData.tuple (a.map .int)] [PyData.int _, PyData.tuple (c.map .int)] = true
  rw [PySem.W.alikeAll, PySem.W.alikeAll]
  have : PySem.W.alike (.tuple (a.map .int)) (.tuple (c.map .int)) = true := PySem.W.alike_ints a c
  rw [this]
  rfl
theorem pairs_sortable (ts : List (List Int)) : PySem.W.Sortable (ts.map pairD) := PySem.W.Sortable.tuples fun t => ⟨_, _, rfl⟩
/-- most_lost for the load 1 -/
theorem good_one {ns : List Int} (hp : ns.Pairwise (· ≤ ·)) (h0 : ∀ x ∈ ns, 0 ≤ x) {s : Nat} (hs : strI ns 1 = (s : Int)) : ((List.range (ns.length + 1)).filter fun l => decide (1 ≤ safeOf ns l)) = List.range s := by
  have hsn := strI_le (ns := ns) (load := 1) (by decide)
  have e : (List.range (ns.length + 1)).filter (fun l => decide (1 ≤ safeOf ns l)) = (List.range (ns.length + 1)).filter fun l => decide (l < s) := by
    refine List.filter_congr fun l hl => decide_eq_decide.mpr ?_
    have h := strong_safe hp h0 (lost := l) (by have := List.mem_range.mp hl; omega) 1
    constructor
    · intro z
      have := h.mpr z 1 (Nat.le_refl _) (Nat.le_refl _)
      rw [show (((1 : Nat)) : Int) = 1 from rfl, hs] at this
      omega
    · intro z
      refine h.mp fun j j1 j2 => ?_
      have : j = 1 := by omega
      subst this
      rw [show (((1 : Nat)) : Int) = 1 from rfl, hs]
      omega
  rw [e]
  have hsl : s ≤ ns.length + 1 := by omega
  have : ∀ m, s ≤ m → (List.range m).filter (fun l => decide (l < s)) = List.range s := by
    intro m
    induction m with
    | zero => intro h; rw [show s = 0 by omega]; rfl
    | succ m ih =>
      intro h
      by_cases c : s = m + 1
      · rw [← c]
        exact List.filter_eq_self.mpr fun l hl => decide_eq_true (List.mem_range.mp hl)
      · rw [List.range_succ, List.filter_append, ih (by omega), List.filter_cons_of_neg (by simp; omega)]
        exact List.append_nil _
  exact this _ hsl
/-! ### lots_by -/
def fndV (ns ps : List Int) (load : Int) : List (List Int) := (powP ps).filter fun t => decide (sumV ns t ≤ load)
theorem fnd_snoc {ns qs : List Int} {p load : Int} (hw : 0 ≤ ns.getD p.toNat 0) : fndV ns (qs ++ [p]) load = fndV ns qs load ++ ((fndV ns qs load).filter fun t => decide (sumV ns t + ns.getD p.toNat 0 ≤ load)).map fun t => t ++ [p] := by
  unfold fndV
  rw [powP_snoc, List.filter_append, List.filter_map, List.filter_filter]
  congr 2
  refine List.filter_congr fun t _ => ?_
  show decide (sumV ns (t ++ [p]) ≤ load) = (decide _ && decide _)
  rw [sumV_snoc, ← Bool.decide_and]
  exact decide_eq_decide.mpr (by omega)
theorem fnd_end (ns ps : List Int) (load : Int) : (fndV ns ps load).filter (fun t => decide (sumV ns t = load)) = (powP ps).filter fun t => decide (sumV ns t = load) := by
  unfold fndV
  rw [List.filter_filter]
  refine List.filter_congr fun t _ => ?_
  rw [← Bool.decide_and]
  exact decide_eq_decide.mpr (by omega)
theorem fnd_len (ns ps : List Int) (load : Int) : (fndV ns ps load).length ≤ 2 ^ ps.length := by
  have h := List.length_filter_le (fun t => decide (sumV ns t ≤ load)) (powP ps)
  rwa [powP_len _ ps rfl] at h
theorem sumV_pos {ns : List Int} : ∀ {t : List Int}, (∀ p ∈ t, 1 ≤ ns.getD p.toNat 0) → 0 ≤ sumV ns t ∧ (sumV ns t = 0 ↔ t = [])
  | [], _ => ⟨Int.le_refl _, fun _ => rfl, fun _ => rfl⟩
  | p :: t, h => by
    have ih := (sumV_pos (t := t) fun q hq => h q (List.mem_cons_of_mem _ hq)).1
    have hp := h p List.mem_cons_self
    have e : sumV ns (p :: t) = ns.getD p.toNat 0 + sumV ns t := rfl
    rw [e]
    exact ⟨by omega, fun z => by omega, fun z => by cases z⟩
theorem powP_nil0 : ∀ (k : Nat) (ps : List Int), ps.length = k → (powP ps).filter (fun t => t.isEmpty) = [[]]
  | 0, ps, h => by rw [List.eq_nil_of_length_eq_zero h]; rfl
  | k + 1, ps, h => by
    obtain ⟨qs, p, rfl, hl⟩ := snoc_of h
    rw [powP_snoc, List.filter_append, powP_nil0 k qs hl]
    have : ((powP qs).map fun t => t ++ [p]).filter (fun t => t.isEmpty) = [] := by
      refine List.filter_eq_nil_iff.mpr fun t ht => ?_
      obtain ⟨u, _, rfl⟩ := List.mem_map.mp ht
      cases u <;> simp
    rw [this]
    rfl
theorem lots_zero {ns ps : List Int} (h : ∀ p ∈ ps, 1 ≤ ns.getD p.toNat 0) : (powP ps).filter (fun t => decide (sumV ns t = 0)) = [[]] := by
  rw [← powP_nil0 _ ps rfl]
  refine List.filter_congr fun t ht => ?_
  have := (sumV_pos (ns := ns) (t := t) fun p hp => h p ((powP_mem _ ps rfl t ht).subset hp)).2
  cases t with
  | nil => rfl
  | cons p t => exact decide_eq_false fun z => by cases this.mp z
theorem lotsW_few {ns ps : List Int} {load : Int} (h : ∀ p ∈ ps, 1 ≤ ns.getD p.toNat 0) : ((powP ps).filter fun t => decide (sumV ns t = load)).length < 2 ∨ ∀ t ∈ (powP ps).filter (fun t => decide (sumV ns t = load)), t ≠ [] := by
  by_cases c : load = 0
  · left
    rw [c, lots_zero h]
    decide
  · right
    intro t ht z
    have := of_decide_eq_true (List.mem_filter.mp ht).2
    rw [z] at this
    exact c this.symm
theorem lotsW_sort (ns ps : List Int) (load : Int) : lotsW ns ps load = lexSort ((powP ps).filter fun t => decide (sumV ns t = load)) := sort_filter _ _
theorem lotsW_len (ns ps : List Int) (load : Int) : (lotsW ns ps load).length ≤ 2 ^ ps.length := by
  rw [lotsW_sort, (lexSort_perm _).length_eq]
  have h := List.length_filter_le (fun t => decide (sumV ns t = load)) (powP ps)
  rwa [powP_len _ ps rfl] at h
theorem restV_sub (n : Nat) (L : List Int) : (restV n L).Sublist (rngI n) := by
  rw [restV_eq]
  exact List.filter_sublist
theorem mem_rngI {n : Nat} {p : Int} (h : p ∈ rngI n) : 0 ≤ p ∧ p < n := by
  obtain ⟨i, hi, rfl⟩ := List.mem_map.mp h
  have := List.mem_range.mp hi
  omega
theorem rngI_len (n : Nat) : (rngI n).length = n := by unfold rngI; rw [List.length_map, List.length_range]
theorem wt_pos {ns : List Int} (h : ∀ x ∈ ns, 1 ≤ x) {p : Int} (hp : 0 ≤ p ∧ p < ns.length) : 1 ≤ ns.getD p.toNat 0 := by
  have hl : p.toNat < ns.length := by omega
  rw [List.getD_eq_getElem?_getD, List.getElem?_eq_getElem hl]
  exact h _ (List.getElem_mem hl)
theorem find_drop {α : Type} {p : α → Bool} {xs : List α} {i : Nat} {x : α} (h : xs[i]? = some x) : (xs.drop i).find? p = if p x = true then some x else (xs.drop (i + 1)).find? p := by
  obtain ⟨hi, e⟩ := List.getElem?_eq_some_iff.mp h
  rw [List.drop_eq_getElem_cons hi, e, List.find?_cons]
  cases p x <;> rfl
theorem findS_drop {α β : Type} {g : α → Option β} {xs : List α} {i : Nat} {x : α} (h : xs[i]? = some x) : (xs.drop i).findSome? g = (g x).or ((xs.drop (i + 1)).findSome? g) := by
  obtain ⟨hi, e⟩ := List.getElem?_eq_some_iff.mp h
  rw [List.drop_eq_getElem_cons hi, e, List.findSome?_cons]
  cases g x <;> rfl
def brkD (ns : List Int) (load : Int) : PyData := match brkV ns load with
  | some L => .tuple (L.map .int)
  | none => .none
end D

set_option Elab.async false
set_option linter.all false
set_option maxRecDepth 100000
set_option maxHeartbeats 1000000
set_option autoImplicit false
/-! Dl14: three names at once; x *= e of wide ints. -/
namespace D
open PySem PySem.Spec PyProof.Rows L2
section
variable {X : Cx} {tb : Tbs} {b : Bx tb} {S S1 S2 S3 : List Sl} {e f g : Expr} {da db dc : PyData} {pos : Pos} {rest : List Stmt} {P : Po} {n m : Int}
theorem B_par3 (i j l : Nat) {x y z : Str} {px py pz pt pt2 : Pos} {kt k2 : Nat} (h1 : E X b S e (.val da) S1) (h2 : E X b S1 f (.val db) S2) (h3 : E X b S2 g (.val dc) S3) (hc : X.calm = true) (hN : X.N.Nodup) (hi : X.N[i]? = some x) (hj : X.N[j]? = some y) (hl : X.N[l]? = some z) (hij : i ≠ j) (hil : i ≠ l) (hjl : j ≠ l)
    (hx : X.env.scope.names.lookup x = some .local) (hy : X.env.scope.names.lookup y = some .local) (hz : X.env.scope.names.lookup z = some .local)
    (k : SS X b (((S3.set i (.val da)).set j (.val db)).set l (.val dc)) rest P) (hw : swappedStores [.Tuple [.Name x px, .Name y py, .Name z pz] kt pt] (.Tuple [e, f, g] k2 pt2) X.env = pure (some [x, y, z]) := by rfl) (hs : swapsWithSole [.Tuple [.Name x px, .Name y py, .Name z pz] kt pt] (.Tuple [e, f, g] k2 pt2) pos.line X.env = pure false := by rfl)
    (ha : starEach [e, f, g] X.env = (false, eval e X.env) :: starEach [f, g] X.env := by rfl) (ha2 : starEach [f, g] X.env = (false, eval f X.env) :: starEach [g] X.env := by rfl) (ha3 : starEach [g] X.env = (false, eval g X.env) :: starEach [] X.env := by rfl) :
    SS X b S (.Assign [.Tuple [.Name x px, .Name y py, .Name z pz] kt pt] (.Tuple [e, f, g] k2 pt2) pos :: rest) P :=
  ss_cons (Mid := fun S' => S' = ((S3.set i (.val da)).set j (.val db)).set l (.val dc)) (PS.w (ps_par3 hc hN hi hj hl hij hil hjl hx hy hz (pa_cons h1 (pa_cons h2 (pa_cons h3 pa_nil ha3) ha2) ha) hw hs) fun D σ H ⟨G, st, q1, _⟩ => ⟨G, st, fun v G2 H2 st2 x r => ⟨G2, st2, fun w G3 H3 st3 x3 r3 => ⟨G3, st3, fun u G4 H4 st4 x4 r4 =>
    ⟨v, w, u, rfl, q1 G4 H4 _ _ (((st4.putVal (r.mono (x3.trans x4))).putVal (r3.mono x4)).putVal r4) (x.trans (x3.trans x4)) rfl⟩⟩⟩⟩) fun S' h => by rw [h]; exact k
theorem ip_mulW : PIp X .Mult (fun x y H Q => ∃ i j, x = .int i ∧ y = .int j ∧ CMulW i j ∧ Q (.int (i * j)) H) := by
  intro pins s σ H x y v u Q I r1 r2 h
  obtain ⟨i, j, e1, e2, hc, q⟩ := h
  subst e1; subst e2
  obtain ⟨t, rfl⟩ := r1
  obtain ⟨t', rfl⟩ := r2
  exact PyProof.Rows.imul_int ⟨.int _, H, I.tok _, ⟨_, rfl⟩, q⟩ hc.ok
theorem B_augMul (i : Nat) {x : Str} {px : Pos} (hs : S[i]? = some (.val (.int n))) (he : E X b S e (.val (.int m)) S1) (hc : CMulW n m) (hN : X.N.Nodup) (hi : X.N[i]? = some x) (hx : Loc X.env.scope x) (k : SS X b (S1.set i (.val (.int (n * m)))) rest P) (hf : X.fn x = true ∨ X.env.scope.names.lookup x = some .local := by first | exact .inl rfl | exact .inr rfl) :
    SS X b S (.AugAssign (.Name x px) .Mult e pos :: rest) P :=
  ss_cons (Mid := fun S' => S' = S1.set i (.val (.int (n * m)))) (PS.w (ps_aug hN hi hx he ip_mulW hf) fun D σ H ⟨G, st, q1, _⟩ => by
    obtain ⟨v, h1, r1⟩ := st.slot hs
    cases r1
    exact ⟨_, h1, G, st, fun w G2 H2 st2 x2 r2 => by cases r2; exact ⟨n, m, rfl, rfl, hc, q1 G2 H2 _ _ (st2.putVal (.int _)) x2 rfl⟩⟩) fun S' h => by rw [h]; exact k
theorem E_sortedS {ns : List Int} {v : PyData} {p : Pos} (hv : v = dT ns ∨ v = dL ns) (hm : X.mg "sorted" = none) (ha : E X b S e (.val v) S1) (h64 : ns.length < 64) (hg : Gl X "sorted" := by rfl) (he : starEach [e] X.env = (false, eval e X.env) :: starEach [] X.env := by rfl) (hpl : (backTo pos (starEach [] X.env)).any (·.1) = false := by rfl) : E X b S (.Call (.Name "sorted" p) [e] [] pos) (.new ((sortI ns).map .int)) S1 := by
  rcases hv with rfl | rfl
  · exact E_sortedT hm ha hg he hpl
  · exact E_sortedL hm ha h64 hg he hpl
end
end D

set_option Elab.async false
set_option linter.all false
set_option maxRecDepth 100000
set_option maxHeartbeats 1000000
set_option autoImplicit false
/-! Dc: the loop of one clause of any comprehension; a dict comprehension over two walks. -/
namespace DC
open PySem PySem.Spec PyProof.Rows L2
/-- one turn of a clause; `act` is what is done where the tests are passed -/
def clause (e : Expr) (d : Nat) (p : Pos) (tg : Expr) (ifs : List Expr) (it acc : Value) (env : Env) (act : Sem Fin) : Sem Fin := do
  standAt p
  match ← pyNext it with
  | none => pure (.done .next)
  | some v =>
    letOwnedTupleGo tg it v
    assign tg env v
    let mut ok := true
    for c in ifs do
      if ok then ok ← isTrue c env (eval c env)
    if ok then act else again (.compLoop e d it acc env)
abbrev NoE : Value → Shared → Prop := fun _ _ => False
theorem weak {α : Type} {M : Model} {A : Around} {t : Sem α} {Q : α → Shared → Prop} {E : Value → Shared → Prop} {s : Shared} (h : wpAny M A t Q NoE s) : wpAny M A t Q E s := wpAny_mono h (fun _ _ q => q) fun _ _ z => z.elim
/-- the clause's loop, by a measure -/
theorem clause_loop {prog : Program} {w : World} {A : Around} {R : Result → Shared → Prop} {s : Shared} {kx vx tg : Expr} {gens : List Comprehension} {scope : Scope} {pos : Pos} {d : Nat} {p : Pos} {ifs : List Expr} {it acc : Value} {env : Env} {act : Sem Fin} (same : compTurn (.DictComp kx vx gens scope pos) d it acc env = clause (.DictComp kx vx gens scope pos) d p tg ifs it acc env act) (I : Nat → Shared → Prop)
    (turn : ∀ n s, I n s → wpAny (model prog w) A (pyNext it) (fun r s1 => match r with
      | none => R (.ok .next) s1
      | some v => wpAny (model prog w) A (letOwnedTupleGo tg it v) (fun _ s2 => wpAny (model prog w) A (assign tg env v) (fun _ s3 =>
          wpAny (model prog w) A (forIn ifs true fun c r => if r = true then do let ok ← isTrue c env (eval c env); pure (ForInStep.yield ok) else pure (ForInStep.yield r)) (fun ok s4 =>
            if ok = true then wpAny (model prog w) A act (fun fin s5 => fin = .again (.compLoop (.DictComp kx vx gens scope pos) d it acc env) ∧ ∃ m, m < n ∧ I m s5) NoE s4 else ∃ m, m < n ∧ I m s4) NoE s3) NoE s2) NoE s1) NoE s)
    (n : Nat) (h : I n s) : codeAny (model prog w) A (.compLoop (.DictComp kx vx gens scope pos) d it acc env) R s := by
  refine codeAny_loop rfl I (fun k s' hI => ?_) n h
  show wpAny _ A ((compTurn (.DictComp kx vx gens scope pos) d it acc env).onRaise (fun x => do noteFrame x env; theTreesLotGoes x)) _ _ s'
  refine wpAny_noted ?_
  rw [same]
  unfold clause
  refine wpAny_bind (wpAny_standAt (wpAny_bind (weak (wpAny_mono (turn k s' hI) (fun r s1 h1 => ?_) fun _ _ z => z))))
  cases r with
  | none => exact wpAny_pure h1
  | some v =>
    refine wpAny_bind (weak (wpAny_mono h1 (fun _ s2 h2 => wpAny_bind (weak (wpAny_mono h2 (fun _ s3 h3 => wpAny_bind (weak (wpAny_mono h3 (fun ok s4 h4 => ?_) fun _ _ z => z))) fun _ _ z => z))) fun _ _ z => z))
    cases ok with
    | false => exact wpAny_pure ⟨rfl, h4⟩
    | true => exact weak (wpAny_mono h4 (fun fin s5 h5 => by rw [h5.1]; exact ⟨rfl, h5.2⟩) fun _ _ z => z)
/-- a walk's loop over what is known of the heap -/
def Lp (J : It) (H0 : Hp) (End : Hp → Prop) (turn : (Hp → Prop) → V → Hp → Prop) : Prop :=
  ∃ W : Nat → Nat → Hp → Prop, (∃ m, W 0 m H0) ∧ ∀ i m H, W i m H → (J.stop i H ∧ End H) ∨ (J.go i H ∧ ∃ Nx : Hp → Prop, (∀ H', Nx H' → ∃ m', m' < m ∧ W (i + 1) m' H') ∧ ∀ x H', J.yld i H x H' → turn Nx x H')
/-- what σ0 knows σ knows too -/
def Kn (σ0 σ : L2.St) : Prop := σ0.length = σ.length ∧ ∀ (j : Nat) v, σ0[j]? = some (some v) → σ[j]? = some (some v)
theorem Kn.refl (σ : L2.St) : Kn σ σ := ⟨rfl, fun _ _ h => h⟩
theorem Kn.trans {a b c : L2.St} (h : Kn a b) (k : Kn b c) : Kn a c := ⟨h.1.trans k.1, fun j v e => k.2 j v (h.2 j v e)⟩
theorem Kn.wipe (σ : L2.St) (vs : List Nat) : Kn (L2.wipe σ vs) σ := ⟨wipe_length _ _, fun j v e => (wipe_some e).1⟩
section
variable {B : Cx} {pins : List (Addr × Obj)} {σ0 : L2.St} {tg : Expr} {J : It} {fp : List Addr} {it : Addr} {tn : Nat → Heap → Prop} {g : TG} {tt : TT} {kx vx : Expr} {gens : List Comprehension} {scope : Scope} {pos : Pos} {d : Nat} {p : Pos} {ifs : List Expr} {acc : Value} {act : Sem Fin} {H0 : Hp} {End : Hp → Prop} {Keeps : L2.St → Prop} {Act : (Hp → Prop) → L2.St → Hp → Prop} {s : Shared}
theorem clause_run (hc : B.calm = true) (hx : B.xe = NoE) (same : compTurn (.DictComp kx vx gens scope pos) d (.ref it) acc B.env = clause (.DictComp kx vx gens scope pos) d p tg ifs (.ref it) acc B.env act) (T : Turn B.prog B.w B.K tg J fp it tn) (pg : PG B tg g) (pt : PTs B ifs tt)
    (stat : ∀ {σ' : L2.St} {H' : Hp} {s' : Shared}, Inv B pins σ' H' s' → (∀ b ∈ fp, H' b = none) → ∀ b ∈ fp, FpOk B pins H' b)
    (L : Lp J H0 End fun Nx x H' => g x σ0 H' fun σ2 H2 => Keeps σ2 ∧ tt σ2 H2 fun b H3 => if b = true then Act Nx σ2 H3 else Nx H3) (hk : ∀ σ2, Keeps σ2 → Kn σ0 σ2)
    (act_ok : ∀ Nx σ2 H3 pl s', Keeps σ2 → Inv B (pins ++ pl) σ2 H3 s' → Act Nx σ2 H3 → wpAny (model B.prog B.w) B.A act (fun fin s5 => fin = .again (.compLoop (.DictComp kx vx gens scope pos) d (.ref it) acc B.env) ∧ ∃ H5, Inv B (pins ++ pl) σ0 H5 s5 ∧ Nx H5) NoE s')
    (I0 : Inv B pins σ0 H0 s) (st0 : tn 0 s.heap) (n0 : ∀ b ∈ fp, H0 b = none) :
    codeAny (model B.prog B.w) B.A (.compLoop (.DictComp kx vx gens scope pos) d (.ref it) acc B.env) (fun r s' => r = .ok .next ∧ ∃ H', Inv B pins σ0 H' s' ∧ End H') s := by
  obtain ⟨W, ⟨m0, w0⟩, go⟩ := L
  refine clause_loop same (fun n s' => ∃ i H', Inv B pins σ0 H' s' ∧ tn i s'.heap ∧ (∀ b ∈ fp, H' b = none) ∧ W i n H') ?_ m0 ⟨0, H0, I0, st0, n0, w0⟩
  rintro n s1 ⟨i, H1, I1, st1, n1, w1⟩
  rcases go i n H1 w1 with ⟨hstop, hend⟩ | ⟨hgo, Nx, hNx, step⟩
  · refine thnF (T.done B rfl rfl rfl hc i pins s1 σ0 H1 NoE I1 (stat I1 n1) st1 hstop) fun r s2 ⟨hr, I2⟩ => ?_
    subst hr
    exact ⟨rfl, H1, I2, hend⟩
  · refine thnF (T.item B rfl rfl rfl hc i pins s1 σ0 H1 NoE I1 (stat I1 n1) st1 hgo) fun r s2 ⟨u, hr, h2⟩ => ?_
    subst hr
    refine thnF h2 fun _ s3 ⟨x, H3, I3, r3, y3, st3, n3⟩ => ?_
    -- the iterator's own cells are held fast meanwhile
    have held := I3.pinned (stat I3 n3) (T.obj _ _ st3)
    have next : ∀ {s' : Shared} {H' : Hp}, Inv B (pins ++ pinsAt fp s3.heap) σ0 H' s' → Nx H' → ∃ m, m < n ∧ ∃ j H'', Inv B pins σ0 H'' s' ∧ tn j s'.heap ∧ (∀ b ∈ fp, H'' b = none) ∧ W j m H'' := fun {s' H'} I' hn => by
      obtain ⟨m', hm, w'⟩ := hNx H' hn
      have still : ∀ b ∈ fp, ∀ o, s3.heap.get? b = some o → s'.heap.get? b = some o ∧ H' b = none := fun b hb o eo =>
        have z := I'.pin (b, o) (List.mem_append_right _ (List.mem_append_right _ (mem_pinsAt hb eo)))
        ⟨z.1, z.2.1⟩
      refine ⟨m', hm, i + 1, H', I'.unpinned, T.keep _ _ _ st3 fun b hb o eo => (still b hb o eo).1, fun b hb => ?_, w'⟩
      obtain ⟨o, eo, _⟩ := T.obj _ _ st3 b hb
      exact (still b hb o eo).2
    have hg := pg.run _ s3 σ0 H3 x u _ held r3 (step x H3 y3)
    rw [hx] at hg
    refine thnF hg fun _ s4 ⟨σ4, H4, I4, hkp, q4⟩ => ?_
    have ht := pt.run _ s4 σ4 H4 _ I4 q4
    rw [hx] at ht
    refine thnF ht fun b s5 ⟨H5, I5, q5⟩ => ?_
    have kn := hk σ4 hkp
    cases b with
    | false =>
      simp only [Bool.false_eq_true, if_false] at q5 ⊢
      exact next (I5.weak kn.1 kn.2) q5
    | true =>
      simp only [if_true] at q5 ⊢
      exact thnF (act_ok Nx σ4 H5 _ s5 hkp I5 q5) fun fin s6 ⟨ef, H6, I6, q6⟩ => ⟨ef, next I6 q6⟩
end
/-! ### a dict comprehension over two walks -/
section
variable {prog : Program} {w : World} {A : Around} {R : Result → Shared → Prop} {s : Shared} {kx vx t0 i0 t1 i1 : Expr} {ifs0 ifs1 : List Expr} {scope : Scope} {pos : Pos} {env : Env}
abbrev two (kx vx t0 i0 t1 i1 : Expr) (ifs0 ifs1 : List Expr) (scope : Scope) (pos : Pos) : Expr := .DictComp kx vx [⟨t0, i0, ifs0, 0⟩, ⟨t1, i1, ifs1, 0⟩] scope pos
theorem inner_turn (it : Value) (D : Addr) : compTurn (two kx vx t0 i0 t1 i1 ifs0 ifs1 scope pos) 1 it (.ref D) env = clause (two kx vx t0 i0 t1 i1 ifs0 ifs1 scope pos) 1 i1.pos t1 ifs1 it (.ref D) env (do
    (do
      let kv ← eval kx env
      let vv ← holding [kv] (eval vx env)
      standAt { kx.pos with endLine := vx.pos.endLine, endCol := vx.pos.endCol }
      holding [kv, vv] (dictSet D kv vv))
    again (.compLoop (two kx vx t0 i0 t1 i1 ifs0 ifs1 scope pos) 1 it (.ref D) env)) := by rfl
theorem outer_turn (it acc : Value) : compTurn (two kx vx t0 i0 t1 i1 ifs0 ifs1 scope pos) 0 it acc env = clause (two kx vx t0 i0 t1 i1 ifs0 ifs1 scope pos) 0 i0.pos t0 ifs0 it acc env (do
    let x ← eval i1 env
    standAt i1.pos
    let x ← foldedSetIterable i1 env x
    let _ ← runOwn (.compStart (two kx vx t0 i0 t1 i1 ifs0 ifs1 scope pos) 1 (← holding [x] (pyIter x)) acc env) env
    again (.compLoop (two kx vx t0 i0 t1 i1 ifs0 ifs1 scope pos) 0 it acc env)) := by rfl
/-- the second clause begins -/
theorem start_in {it acc : Value} (h0 : codeAny (model prog w) A (.compLoop (two kx vx t0 i0 t1 i1 ifs0 ifs1 scope pos) 1 it acc env) R s)
    (h : wpAny (model prog w) A (pyIter it) (fun it' s' => codeAny (model prog w) A (.compLoop (two kx vx t0 i0 t1 i1 ifs0 ifs1 scope pos) 1 it' acc env) R s') NoE s) :
    codeAny (model prog w) A (.compStart (two kx vx t0 i0 t1 i1 ifs0 ifs1 scope pos) 1 it acc env) R s := by
  refine codeAny_of_tree ?_
  show wpAny _ _ ((compStart (two kx vx t0 i0 t1 i1 ifs0 ifs1 scope pos) 1 it acc env).onRaise (fun x => do noteFrame x env; standAt theWindowsPlace)) _ _ s
  refine wpAny_notedAt ?_
  unfold compStart
  show wpAny _ _ (ask >>= _) _ _ s
  refine wpAny_bind (wpAny_askSetting (wpAny_ite ?_))
  split
  · first
      | exact wpAny_bind (wpAny_pure (wpAny_pure (And.intro rfl h0)))
      | exact wpAny_pure (And.intro rfl h0)
  · have fin : wpAny (model prog w) A (pyIter it) (fun it' s' => wpAny (model prog w) A (again (.compLoop (two kx vx t0 i0 t1 i1 ifs0 ifs1 scope pos) 1 it' acc env) : Sem Fin) (fun f s'' => match f with
        | .done f => R (.ok f) s''
        | .again c' => c'.quiet = true ∧ codeAny (model prog w) A c' R s'') (fun x s'' => R (.error x) s'') s') (fun x s' => notedBy (model prog w) A env (fun x s'' => R (.error x) s'') x s') s :=
      weak (wpAny_mono h (fun it' s' h' => wpAny_pure ⟨rfl, h'⟩) fun _ _ z => z)
    refine wpAny_bind (wpAny_rule ?_)
    show wpAny _ _ (standAt i1.pos >>= _) _ _ s
    exact wpAny_bind (wpAny_standAt (wpAny_bind (weak (wpAny_mono h (fun it' s' h' => wpAny_pure (And.intro rfl h')) fun _ _ z => z))))
end
/-- {k: v for tg in iter if .. for tg1 in iter1 if ..}: keys ints or texts -/
def tDc2 (wi : TI) (g : TG) (tt : TT) (wi1 : TI) (g1 : TG) (tt1 : TT) (tk tv : TE) (vs vs1 : List Nat) : TE := fun σ H Q => wi σ H fun J H1 => ∀ D, H1 D = none →
  Lp J (upd H1 D (.dK [])) (Q (.ref D)) fun Nx x H2 => g x (wipe σ vs) H2 fun σ3 H3 => wipe σ3 vs = wipe σ vs ∧ tt σ3 H3 fun b H4 =>
    if b = true then wi1 σ3 H4 fun J1 H5 => Lp J1 H5 Nx fun Nx1 y H6 => g1 y (wipe σ3 vs1) H6 fun σ7 H7 => wipe σ7 vs1 = wipe σ3 vs1 ∧ tt1 σ7 H7 fun b1 H8 =>
      if b1 = true then tk σ7 H8 fun kk H9 => tv σ7 H9 fun z H10 => ∃ kvs k, kk = kV k ∧ H10 D = some (.dK kvs) ∧ kvs.length < sizeLine ∧ Nx1 (upd H10 D (.dK (putK kvs k z))) else Nx1 H8
    else Nx H4
theorem kn_wipe {σ σ2 : L2.St} {vs : List Nat} (h : wipe σ2 vs = wipe σ vs) : Kn (wipe σ vs) σ2 := by
  rw [← h]
  exact Kn.wipe σ2 vs
theorem wipe_else {σ : L2.St} {i : Nat} : ∀ {vs : List Nat}, i ∉ vs → (wipe σ vs)[i]? = σ[i]?
  | [], _ => rfl
  | v :: vs, h => by
    have hv : v ≠ i := fun z => h (z ▸ List.mem_cons_self)
    show ((wipe σ vs).set v none)[i]? = _
    rw [List.getElem?_set_ne hv]
    exact wipe_else fun z => h (List.mem_cons_of_mem _ z)
section
variable {X : Cx}
theorem dc2_core {pins : List (Addr × Obj)} {s : Shared} {σ : L2.St} {H : Hp} {Q : VK} {kx vx tg iter tg1 iter1 : Expr} {ifs ifs1 : List Expr} {scope : Scope} {own : List (Str × Nat)} {vs1 : List Nat} {pos pos2 : Pos} {wi wi1 : TI} {g g1 : TG} {tt tt1 : TT} {tk tv : TE} {use : Option (Value → Sem Unit)} {Qf : Value → Shared → Prop} (hc : X.calm = true) (hN : X.N.Nodup) (I : Inv X pins σ H s) (hi : PI X tg iter wi) (ok : BlkOk X.N X.env.scope scope own) (hv : ∀ i ∈ vs1, i ∈ own.map (·.2))
    (hg : ∀ (s : Shared) (H : Hp) (C : Addr) (cl : List (Str × Addr)) (fp : List Addr), PG (X.blk s H scope (compEnvC scope cl C X.env) fp) tg g) (ht : ∀ (s : Shared) (H : Hp) (C : Addr) (cl : List (Str × Addr)) (fp : List Addr), PTs (X.blk s H scope (compEnvC scope cl C X.env) fp) ifs tt)
    (hi1 : ∀ (s : Shared) (H : Hp) (C : Addr) (cl : List (Str × Addr)) (fp : List Addr), PI (X.blk s H scope (compEnvC scope cl C X.env) fp) tg1 iter1 wi1)
    (hg1 : ∀ (s : Shared) (H : Hp) (C : Addr) (cl : List (Str × Addr)) (fp : List Addr), PG (X.blk s H scope (compEnvC scope cl C X.env) fp) tg1 g1) (ht1 : ∀ (s : Shared) (H : Hp) (C : Addr) (cl : List (Str × Addr)) (fp : List Addr), PTs (X.blk s H scope (compEnvC scope cl C X.env) fp) ifs1 tt1)
    (hk : ∀ (s : Shared) (H : Hp) (C : Addr) (cl : List (Str × Addr)) (fp : List Addr), PE (X.blk s H scope (compEnvC scope cl C X.env) fp) kx tk) (he : ∀ (s : Shared) (H : Hp) (C : Addr) (cl : List (Str × Addr)) (fp : List Addr), PE (X.blk s H scope (compEnvC scope cl C X.env) fp) vx tv)
    (hs : ∀ x, foldedSetIterable iter X.env x = pure x) (hs1 : ∀ env x, foldedSetIterable iter1 env x = pure x) (h : tDc2 wi g tt wi1 g1 tt1 tk tv (own.map (·.2)) vs1 σ H Q)
    (fin : ∀ D C s' m H', Inv X pins σ H' s' → Q (.ref D) H' → s'.heap.Ns C m → FpOk X pins H' C → compPost (model X.prog X.w) X.A X.xe use Qf (.ref D) C (.ok .next) s') :
    wpAny (model X.prog X.w) X.A (comprehension (two kx vx tg iter tg1 iter1 ifs ifs1 scope pos) scope X.env pos2 newDict false (eval iter X.env) use) Qf X.xe s := by
  have hfree : ∀ y ∈ scope.names, y.2 = .free → ∃ c, X.env.cells.lookup y.1 = some c := fun y hy ey => (ok.free y hy ey).elim (fun z => I.ok.has _ (.inl z)) fun z => I.ok.has _ (.inr z)
  refine wpAny_comprehension_free (use := use) rfl hs (closure_ok hfree) ok.kind (fun y hy ey => by rw [ok.uniq y hy, ey]) (thn (hi.run pins s σ H _ I h) fun xv s1 hx => thn hx fun itv s2 ⟨it, fp, tn, J, H2, ei, I2, T, st2, f2, q⟩ => ?_)
  subst ei
  refine wpAny_newObj_type (newEnv_comp ?_)
  generalize hD : s2.heap.objs.size = D
  have lp := q D (I2.hok.fresh (Nat.le_of_eq hD))
  -- the new dict is laid
  generalize hs3 : ({ s2 with heap := s2.heap.push { cls := .type "dict", data := .dict #[] } } : Shared) = s3
  have heap3 : s3.heap = s2.heap.push { cls := .type "dict", data := .dict #[] } := by rw [← hs3]
  have I3 : Inv X pins σ (upd H2 D (.dK [])) s3 := by
    rw [← hs3]
    refine I2.laid (t' := s2.toks) (fun b o eo => Heap.get?_push_of_some _ eo) (Nat.le_of_eq hD) ?_
    rw [← hD]
    exact dk_empty s2.heap I2.big
  have f3 : ∀ b ∈ fp, FpOk X pins (upd H2 D (.dK [])) b ∧ b < s3.heap.objs.size := fun b hb => by
    obtain ⟨o, eo, _⟩ := T.obj _ _ st2 b hb
    have hlt := Heap.lt_size eo
    refine ⟨⟨?_, (f2 b hb).2⟩, by rw [heap3, Heap.size_push]; exact Nat.lt_succ_of_lt hlt⟩
    rw [upd_ne (by rw [← hD]; exact Nat.ne_of_lt hlt)]
    exact (f2 b hb).1
  have I4 := block_start I3 ok hN f3
  have pg := hg s3 (upd H2 D (.dK [])) s3.heap.objs.size (cellsFrom (s3.heap.objs.size + 1) scope.names (cloFrom X.env.cells scope.names [])) fp
  have pt := ht s3 (upd H2 D (.dK [])) s3.heap.objs.size (cellsFrom (s3.heap.objs.size + 1) scope.names (cloFrom X.env.cells scope.names [])) fp
  have pi1 := hi1 s3 (upd H2 D (.dK [])) s3.heap.objs.size (cellsFrom (s3.heap.objs.size + 1) scope.names (cloFrom X.env.cells scope.names [])) fp
  have pg1 := hg1 s3 (upd H2 D (.dK [])) s3.heap.objs.size (cellsFrom (s3.heap.objs.size + 1) scope.names (cloFrom X.env.cells scope.names [])) fp
  have pt1 := ht1 s3 (upd H2 D (.dK [])) s3.heap.objs.size (cellsFrom (s3.heap.objs.size + 1) scope.names (cloFrom X.env.cells scope.names [])) fp
  have pk := hk s3 (upd H2 D (.dK [])) s3.heap.objs.size (cellsFrom (s3.heap.objs.size + 1) scope.names (cloFrom X.env.cells scope.names [])) fp
  have pw := he s3 (upd H2 D (.dK [])) s3.heap.objs.size (cellsFrom (s3.heap.objs.size + 1) scope.names (cloFrom X.env.cells scope.names [])) fp
  show codeAny _ _ (.compStart (two kx vx tg iter tg1 iter1 ifs ifs1 scope pos) 0 (.ref it) (.ref D) (compEnvC scope (cellsFrom (s3.heap.objs.size + 1) scope.names (cloFrom X.env.cells scope.names [])) s3.heap.objs.size X.env)) (compPost (model X.prog X.w) X.A X.xe use Qf (.ref D) s3.heap.objs.size) { s3 with heap := pushCells (s3.heap.push { cls := .type "dict", data := .dict #[] }) scope.names }
  have off : ∀ b ∈ fp, (upd H2 D (.dK [])) b = none := fun b hb => (f3 b hb).1.1
  obtain ⟨ce, hce⟩ : ∃ c, compEnvC scope (cellsFrom (s3.heap.objs.size + 1) scope.names (cloFrom X.env.cells scope.names [])) s3.heap.objs.size X.env = c := ⟨_, rfl⟩
  have cL : ce.locals = s3.heap.objs.size := by rw [← hce]; rfl
  rw [hce] at I4 pg pt pi1 pg1 pt1 pk pw ⊢
  obtain ⟨H3, hH3⟩ : ∃ c, upd H2 D (.dK []) = c := ⟨_, rfl⟩
  rw [hH3] at I3 I4 pg pt pi1 pg1 pt1 pk pw lp off f3
  obtain ⟨s4, hs4⟩ : ∃ c : Shared, ({ s3 with heap := pushCells (s3.heap.push { cls := .type "dict", data := .dict #[] }) scope.names } : Shared) = c := ⟨_, rfl⟩
  rw [hs4] at I4 ⊢
  have st4 : tn 0 s4.heap := T.keep _ _ _ st2 fun b _ o eo => by
    rw [← hs4]
    exact pushCells_keeps _ _ _ _ (Heap.get?_push_of_some _ (by rw [heap3]; exact Heap.get?_push_of_some _ eo))
  have run : codeAny (model X.prog X.w) X.A (.compLoop (two kx vx tg iter tg1 iter1 ifs ifs1 scope pos) 0 (.ref it) (.ref D) ce) (fun r s' => r = .ok .next ∧ ∃ H', Inv (X.blk s3 H3 scope ce fp) [] (wipe σ (own.map (·.2))) H' s' ∧ Q (.ref D) H') s4 := by
    refine clause_run (B := X.blk s3 H3 scope ce fp) (pins := []) (Keeps := fun σ3 => wipe σ3 (own.map (·.2)) = wipe σ (own.map (·.2))) hc rfl (outer_turn _ _) T pg pt (fun {σ' H' s'} I' hn b hb => ⟨hn b hb, (I'.ok.exf b hb).1, I'.ok.exfs b hb, .inl hb, fun x c eo => (I'.ok.exf b hb).2 x c eo, fun p hp => absurd (show p ∈ ([] : List (Addr × Obj)) ++ [] from hp) (by simp)⟩) lp (fun σ3 h3 => kn_wipe h3) (fun Nx σ3 H4 pl s5 h3 I5 a5 => ?_) I4 st4 off
    have far : Kn (wipe σ (own.map (·.2))) (wipe σ3 vs1) := ⟨by rw [← h3, wipe_length, wipe_length], fun j v ej => by
      rw [← h3] at ej
      obtain ⟨e1, e2⟩ := wipe_some ej
      rw [wipe_else fun z => e2 (hv j z)]
      exact e1⟩
    refine wpAny_bind (wpAny_mono (pi1.run _ s5 σ3 H4 _ I5 a5) (fun xv s6 h6 => ?_) fun _ _ z => z)
    refine wpAny_bind (wpAny_standAt (wpAny_bind (wpAny_of_eq (hs1 ce xv) (wpAny_bind (wpAny_holding (wpAny_mono h6 (fun itv s7 h7 => ?_) fun _ _ z => z))))))
    obtain ⟨it1, fp1, tn1, J1, H7, e7, I7, T1, st7, f7, lp1⟩ := h7
    subst e7
    have inner : codeAny (model X.prog X.w) X.A (.compLoop (two kx vx tg iter tg1 iter1 ifs ifs1 scope pos) 1 (.ref it1) (.ref D) ce) (fun r s' => r = .ok .next ∧ ∃ H', Inv (X.blk s3 H3 scope ce fp) ([] ++ pl) (wipe σ3 vs1) H' s' ∧ Nx H') s7 := by
      refine clause_run (B := X.blk s3 H3 scope ce fp) (Keeps := fun σ8 => wipe σ8 vs1 = wipe σ3 vs1) hc rfl (inner_turn _ _) T1 pg1 pt1 (fun {σ' H' s'} I' hn b hb => ⟨hn b hb, (f7 b hb).2⟩) lp1 (fun σ8 h8 => kn_wipe h8) (fun Nx1 σ8 H8 pl1 s8 h8 I8 a8 => ?_) (I7.weak (Kn.wipe σ3 vs1).1 (Kn.wipe σ3 vs1).2) st7 (fun b hb => (f7 b hb).1)
      refine wpAny_bind (wpAny_bind (wpAny_mono (pk.run _ s8 σ8 H8 _ I8 a8) (fun kv s9 ⟨kk, H9, I9, r9, q9⟩ => ?_) fun _ _ z => z))
      refine wpAny_bind (wpAny_holding (wpAny_mono (pw.run _ s9 σ8 H9 _ I9 q9) (fun vv s10 ⟨z, H10, I10, r10, kvs, k, ek, hD10, hz, nx⟩ => ?_) fun _ _ z => z))
      subst ek
      refine wpAny_bind (wpAny_standAt (wpAny_holding ?_))
      exact d_dictSet (X := X.blk s3 H3 scope ce fp) I10 hD10 hz r9 r10 fun s11 I11 => wpAny_pure ⟨rfl, _, I11.weak (kn_wipe h8).1 (kn_wipe h8).2, nx⟩
    refine wpAny_bind (wpAny_runOwn ?_)
    rw [Around.mark_none]
    refine codeAny_mono (start_in inner (T1.self X.A 0 _ _ _ st7 inner)) fun r s8 ⟨hr, H8, I8, nx⟩ => ?_
    subst hr
    first
      | exact wpAny_pure ⟨rfl, H8, I8.weak far.1 far.2, nx⟩
      | exact wpAny_bind (wpAny_pure (wpAny_pure ⟨rfl, H8, I8.weak far.1 far.2, nx⟩))
  have done : codeAny (model X.prog X.w) X.A (.compLoop (two kx vx tg iter tg1 iter1 ifs ifs1 scope pos) 0 (.ref it) (.ref D) ce) (compPost (model X.prog X.w) X.A X.xe use Qf (.ref D) s3.heap.objs.size) s4 := codeAny_mono run fun r s5 ⟨hr, H5, I5, q5⟩ => by
    subst hr
    have I6 : Inv X pins σ H5 s5 := I3.call' (ch := fp) I5.os I5.base I5.hok I5.bare fun b hb => ⟨(f3 b hb).1.2.2.2.1, (f3 b hb).1.2.1, (f3 b hb).1.2.2.2.2.1, (f3 b hb).1.2.2.2.2.2⟩
    have fr : H5 s3.heap.objs.size = none := by
      have z : H5 ce.locals = none := I5.free
      rwa [cL] at z
    obtain ⟨m, hn, _⟩ := I5.loc
    have hn' : s5.heap.Ns ce.locals m := hn
    rw [cL] at hn'
    exact fin D s3.heap.objs.size s5 m H5 I6 q5 hn' (I3.fpOk (Nat.le_refl _) fr)
  exact codeAny_compStart_dict done (T.self X.A 0 _ _ _ st4 done)
theorem pe_dc2 {kx vx tg iter tg1 iter1 : Expr} {ifs ifs1 : List Expr} {scope : Scope} {own : List (Str × Nat)} {vs1 : List Nat} {pos : Pos} {wi wi1 : TI} {g g1 : TG} {tt tt1 : TT} {tk tv : TE} (hc : X.calm = true) (hN : X.N.Nodup) (hi : PI X tg iter wi) (ok : BlkOk X.N X.env.scope scope own) (hv : ∀ i ∈ vs1, i ∈ own.map (·.2))
    (hg : ∀ (s : Shared) (H : Hp) (C : Addr) (cl : List (Str × Addr)) (fp : List Addr), PG (X.blk s H scope (compEnvC scope cl C X.env) fp) tg g) (ht : ∀ (s : Shared) (H : Hp) (C : Addr) (cl : List (Str × Addr)) (fp : List Addr), PTs (X.blk s H scope (compEnvC scope cl C X.env) fp) ifs tt)
    (hi1 : ∀ (s : Shared) (H : Hp) (C : Addr) (cl : List (Str × Addr)) (fp : List Addr), PI (X.blk s H scope (compEnvC scope cl C X.env) fp) tg1 iter1 wi1)
    (hg1 : ∀ (s : Shared) (H : Hp) (C : Addr) (cl : List (Str × Addr)) (fp : List Addr), PG (X.blk s H scope (compEnvC scope cl C X.env) fp) tg1 g1) (ht1 : ∀ (s : Shared) (H : Hp) (C : Addr) (cl : List (Str × Addr)) (fp : List Addr), PTs (X.blk s H scope (compEnvC scope cl C X.env) fp) ifs1 tt1)
    (hk : ∀ (s : Shared) (H : Hp) (C : Addr) (cl : List (Str × Addr)) (fp : List Addr), PE (X.blk s H scope (compEnvC scope cl C X.env) fp) kx tk) (he : ∀ (s : Shared) (H : Hp) (C : Addr) (cl : List (Str × Addr)) (fp : List Addr), PE (X.blk s H scope (compEnvC scope cl C X.env) fp) vx tv)
    (hs : ∀ x, foldedSetIterable iter X.env x = pure x := by intro _; rfl) (hs1 : ∀ env x, foldedSetIterable iter1 env x = pure x := by intro _ _; rfl) :
    PE X (two kx vx tg iter tg1 iter1 ifs ifs1 scope pos) (tDc2 wi g tt wi1 g1 tt1 tk tv (own.map (·.2)) vs1) := by
  refine ⟨fun pins s σ H Q I h => ?_⟩
  rw [arm_eval_DictComp]
  refine dc2_core hc hN I hi ok hv hg ht hi1 hg1 ht1 hk he hs hs1 h fun D C s5 m H5 I6 q5 hn f => ⟨m, hn, fun h6 sb => ?_⟩
  obtain ⟨f0, f1, _, f3, f4, f5⟩ := f
  exact ⟨.ref D, H5, I6.turned (t' := s5.toks) (fun b o hb eo => (sb.2 b hb).trans eo) f0 f1 f3 f4 f5, rfl, q5⟩
/-- y = {..}, y a plain local name -/
theorem ps_setDc2 {i : Nat} {y : Str} {py spos : Pos} {kx vx tg iter tg1 iter1 : Expr} {ifs ifs1 : List Expr} {scope : Scope} {own : List (Str × Nat)} {vs1 : List Nat} {pos : Pos} {wi wi1 : TI} {g g1 : TG} {tt tt1 : TT} {tk tv : TE} (hc : X.calm = true) (hN : X.N.Nodup) (hy : X.N[i]? = some y) (hyl : X.env.scope.names.lookup y = some .local) (hsw : swapsWith (two kx vx tg iter tg1 iter1 ifs ifs1 scope pos) (some (.Name y py)) spos.line X.env = pure true) (hi : PI X tg iter wi) (ok : BlkOk X.N X.env.scope scope own) (hv : ∀ i ∈ vs1, i ∈ own.map (·.2))
    (hg : ∀ (s : Shared) (H : Hp) (C : Addr) (cl : List (Str × Addr)) (fp : List Addr), PG (X.blk s H scope (compEnvC scope cl C X.env) fp) tg g) (ht : ∀ (s : Shared) (H : Hp) (C : Addr) (cl : List (Str × Addr)) (fp : List Addr), PTs (X.blk s H scope (compEnvC scope cl C X.env) fp) ifs tt)
    (hi1 : ∀ (s : Shared) (H : Hp) (C : Addr) (cl : List (Str × Addr)) (fp : List Addr), PI (X.blk s H scope (compEnvC scope cl C X.env) fp) tg1 iter1 wi1)
    (hg1 : ∀ (s : Shared) (H : Hp) (C : Addr) (cl : List (Str × Addr)) (fp : List Addr), PG (X.blk s H scope (compEnvC scope cl C X.env) fp) tg1 g1) (ht1 : ∀ (s : Shared) (H : Hp) (C : Addr) (cl : List (Str × Addr)) (fp : List Addr), PTs (X.blk s H scope (compEnvC scope cl C X.env) fp) ifs1 tt1)
    (hk : ∀ (s : Shared) (H : Hp) (C : Addr) (cl : List (Str × Addr)) (fp : List Addr), PE (X.blk s H scope (compEnvC scope cl C X.env) fp) kx tk) (he : ∀ (s : Shared) (H : Hp) (C : Addr) (cl : List (Str × Addr)) (fp : List Addr), PE (X.blk s H scope (compEnvC scope cl C X.env) fp) vx tv)
    (hs : ∀ x, foldedSetIterable iter X.env x = pure x := by intro _; rfl) (hs1 : ∀ env x, foldedSetIterable iter1 env x = pure x := by intro _ _; rfl) :
    PS X (.Assign [.Name y py] (two kx vx tg iter tg1 iter1 ifs ifs1 scope pos) spos) (tAsg (tDc2 wi g tt wi1 g1 tt1 tk tv (own.map (·.2)) vs1) (gName i)) := by
  refine ⟨fun pins s σ H D I h => ?_⟩
  rw [exec_Assign_Name_used _ _ _ _ hsw]
  refine wpAny_bind (wpAny_standAt (wpAny_bind ?_))
  have start : tDc2 wi g tt wi1 g1 tt1 tk tv (own.map (·.2)) vs1 σ H (fun x H1 => gName i x σ H1 D.nx) := h
  show wpAny _ X.A (do let _ ← comprehension (two kx vx tg iter tg1 iter1 ifs ifs1 scope pos) scope X.env (firstIterPos [⟨tg, iter, ifs, 0⟩, ⟨tg1, iter1, ifs1, 0⟩] pos) newDict false (eval iter X.env) (some (assign (.Name y py) X.env))) _ _ s
  refine wpAny_bind (thn (dc2_core (Qf := fun _ s5 => SP X pins D .next s5) hc hN I hi ok hv hg ht hi1 hg1 ht1 hk he hs hs1 start fun L C s5 m H5 I5 q5 hn f => ?_) fun _ s5 q5 => wpAny_pure (wpAny_pure q5))
  show wpAny _ _ (assign (.Name y py) X.env (.ref L)) _ _ _
  refine wpAny_assign_Name (store_ok2 (v := V.ref L) I5 hN hy (.inl hyl) rfl (fun s6 I6 ⟨c, sb, hcc⟩ => ?_) (.inr hyl))
  obtain ⟨f0, f1, _, f3, f4, f5⟩ := f
  have off : C ≠ c := hcc.elim (fun z => z ▸ f1) fun z ez => f4 y c z ez.symm
  exact ⟨m, hn.sameBut sb off, fun h7 sb7 => ⟨_, H5, I6.turned (t' := s6.toks) (fun b o hb eo => (sb7.2 b hb).trans eo) f0 f1 f3 f4 f5, q5⟩⟩
end
end DC

set_option Elab.async false
set_option linter.all false
set_option maxRecDepth 100000
set_option maxHeartbeats 1000000
set_option autoImplicit false
/-! Dl9: comprehensions over two walks. -/
namespace D
open PySem PySem.Spec PyProof.Rows L2
section
variable {K : PySem.W.Frag} {tb : Tbs} {b : Bx tb} {S S1 : List Sl} {α β : Type} {xs : List α} {ys : α → List β} {enc : α → PyData} {enc1 : β → PyData} {vs vs1 js js1 : List Nat} {g g1 : TG}
/-- what is made over two walks -/
def lcOut2 (ys : α → List β) (p : α → Bool) (p1 : α → β → Bool) (f : α → β → PyData) (l : List α) : List PyData := (l.filter p).flatMap fun x => ((ys x).filter (p1 x)).map (f x)
theorem lcOut2_snoc (ys : α → List β) (p : α → Bool) (p1 : α → β → Bool) (f : α → β → PyData) (l : List α) (x : α) : lcOut2 ys p p1 f (l ++ [x]) = lcOut2 ys p p1 f l ++ (if p x = true then ((ys x).filter (p1 x)).map (f x) else []) := by
  unfold lcOut2
  rw [List.filter_append, List.flatMap_append]
  by_cases c : p x = true <;> simp [c]
def lcT2 (tb : Tbs) (K : PySem.W.Frag) (xs : List α) (F : α → List Sl → List Sl) (T0 : List Sl) (p : α → Bool) : TT := fun σ H Q => ∃ (b : Bx tb) (x : α), x ∈ xs ∧ tT K b (F x T0) (p x) (F x T0) σ H Q
def lcI2 (tb : Tbs) (K : PySem.W.Frag) (xs : List α) (ys : α → List β) (enc1 : β → PyData) (F : α → List Sl → List Sl) (T0 : List Sl) (p : α → Bool) : TI := fun σ H R => ∃ (b : Bx tb) (x : α), x ∈ xs ∧ p x = true ∧ tI K b (F x T0) ((ys x).map enc1) NoC (F x T0) σ H R
def lcU2 (tb : Tbs) (K : PySem.W.Frag) (xs : List α) (ys : α → List β) (F : α → List Sl → List Sl) (F1 : β → List Sl → List Sl) (T0 : List Sl) (vs1 : List Nat) (p : α → Bool) (p1 : α → β → Bool) : TT := fun σ H Q => ∃ (b : Bx tb) (x : α) (y : β), x ∈ xs ∧ p x = true ∧ y ∈ ys x ∧ tT K b (F1 y (wipeS (F x T0) vs1)) (p1 x y) (F1 y (wipeS (F x T0) vs1)) σ H Q
def lcE2 (tb : Tbs) (K : PySem.W.Frag) (xs : List α) (ys : α → List β) (F : α → List Sl → List Sl) (F1 : β → List Sl → List Sl) (T0 : List Sl) (vs1 : List Nat) (p : α → Bool) (p1 : α → β → Bool) (f : α → β → PyData) : TE := fun σ H Q => ∃ (b : Bx tb) (x : α) (y : β), x ∈ xs ∧ p x = true ∧ y ∈ ys x ∧ p1 x y = true ∧ tE K b (F1 y (wipeS (F x T0) vs1)) (.val (f x y)) (F1 y (wipeS (F x T0) vs1)) σ H Q
theorem lc2_sem {F : α → List Sl → List Sl} {F1 : β → List Sl → List Sl} {p : α → Bool} {p1 : α → β → Bool} {f : α → β → PyData}
    (gd : ∀ b : Bx tb, ∀ x ∈ xs, GD K b g (enc x) (F x) js) (hj : ∀ j ∈ js, j ∈ vs) (gd1 : ∀ b : Bx tb, ∀ x ∈ xs, ∀ y ∈ ys x, GD K b g1 (enc1 y) (F1 y) js1) (hj1 : ∀ j ∈ js1, j ∈ vs1) (hv : ∀ j ∈ vs1, j ∈ vs)
    (hw : ∀ x ∈ xs, wipeS (F x (wipeS S1 vs)) vs = wipeS S1 vs) (hw1 : ∀ x ∈ xs, wipeS (wipeS (F x (wipeS S1 vs)) vs1) vs = wipeS S1 vs) (hw2 : ∀ x ∈ xs, ∀ y ∈ ys x, wipeS (F1 y (wipeS (F x (wipeS S1 vs)) vs1)) vs1 = wipeS (F x (wipeS S1 vs)) vs1)
    (hz : (lcOut2 ys p p1 f xs).length < sizeLine) (no : NoOwn S1 vs)
    (σ : L2.St) (H : Hp) (Q : VK) (h : tE K b S (.new (lcOut2 ys p p1 f xs)) S1 σ H Q) :
    tLc2 (tI K b S (xs.map enc) NoC S1) g (lcT2 tb K xs F (wipeS S1 vs) p) (lcI2 tb K xs ys enc1 F (wipeS S1 vs) p) g1 (lcU2 tb K xs ys F F1 (wipeS S1 vs) vs1 p p1) (lcE2 tb K xs ys F F1 (wipeS S1 vs) vs1 p p1 f) vs vs1 σ H Q := by
  obtain ⟨G, st, q⟩ := h
  refine ⟨G, st, fun J G2 H2 st2 x2 c2 w D0 hD => ?_⟩
  have hGD : G2 D0 = none := st2.sub.dom hD
  have hB : b.B D0 = none := st2.base.dom hD
  have hH0 : b.H0 D0 = none := st2.nw _ hD
  have hG0 : b.G0 D0 = none := st2.g0.dom hGD
  have hoD : ∀ i q, Owns σ S1 i q → q ≠ D0 := fun i q w => st2.ownNe hD w
  have nt : ∀ (zs : List V) ps, HO.lst zs ≠ .tbl ps := fun _ _ z => by cases z
  let T0 := wipeS S1 vs
  let Pv : Nat → Hp → Prop := fun i H => ∃ G acc, StOk K (b.hold D0 (.lst acc)) G H (wipe σ vs) T0 ∧ Ex G2 G ∧ RpA K G acc (lcOut2 ys p p1 f (xs.take i))
  have hlen : (xs.map enc).length = xs.length := List.length_map ..
  have pre : ∀ i, (lcOut2 ys p p1 f (xs.take i)).length ≤ (lcOut2 ys p p1 f xs).length := fun i => by
    unfold lcOut2
    have e : xs.filter p = (xs.take i).filter p ++ (xs.drop i).filter p := by rw [← List.filter_append, List.take_append_drop]
    rw [e, List.flatMap_append, List.length_append]
    exact Nat.le_add_right _ _
  refine ⟨fun i m H => m = xs.length - i ∧ i ≤ xs.length ∧ Pv i H, ⟨xs.length, by simp, Nat.zero_le _, ?_⟩, ?_⟩
  · refine ⟨G2, [], ?_, Ex.refl _, .nil⟩
    exact ((st2.poke hGD hB hoD).wipe vs).hold upd_same hGD fun i' q w => (st2.wipe vs).ownNe hD w
  · rintro i m H3 ⟨rfl, hi, G3, acc, st3, x3, racc⟩
    by_cases hlt : i < xs.length
    · refine .inr ⟨w.goes _ i G3 H3 _ _ x3 st3 trivial (by rw [hlen]; exact hlt), Pv (i + 1), fun H' p' => ⟨xs.length - (i + 1), by omega, rfl, hlt, p'⟩, fun v H4 y => ?_⟩
      have hx : xs[i]? = some xs[i] := List.getElem?_eq_getElem hlt
      generalize hxx : xs[i] = x at hx
      have hxm : x ∈ xs := List.mem_of_getElem? hx
      have hout : lcOut2 ys p p1 f (xs.take (i + 1)) = lcOut2 ys p p1 f (xs.take i) ++ (if p x = true then ((ys x).filter (p1 x)).map (f x) else []) := by
        rw [take_succ' hx, lcOut2_snoc]
      obtain ⟨G4, st4, x4, r4⟩ := w.yields _ i (enc x) G3 H3 _ _ v H4 x3 st3 trivial (by rw [List.getElem?_map, hx] <;> rfl) y
      refine gd _ x hxm G4 H4 _ _ v _ st4 r4 fun σ5 st5 w5 => ?_
      have hwp : wipe σ5 vs = wipe σ vs := (w5 vs hj).trans (wipe_wipe σ vs vs fun _ h => h)
      refine ⟨hwp, _, x, hxm, G4, st5, fun G6 H6 st6 x6 => ?_⟩
      cases hp : p x with
      | false =>
        simp only [Bool.false_eq_true, if_false]
        show Pv (i + 1) H6
        refine ⟨G6, acc, ?_, x3.trans (x4.trans x6), ?_⟩
        · have s10 := st6.wipe vs
          rw [hw x hxm, hwp] at s10
          exact s10
        · rw [hout, hp]
          simp only [Bool.false_eq_true, if_false, List.append_nil]
          exact racc.mono (x4.trans x6)
      | true =>
        simp only [if_true]
        rw [hp] at hout
        simp only [if_true] at hout
        have hbig := pre (i + 1)
        rw [hout, List.length_append] at hbig
        have hlen1 : ((ys x).map enc1).length = (ys x).length := List.length_map ..
        refine ⟨_, x, hxm, hp, G6, st6, fun J1 G7 H7 st7 x7 _ w1 => ?_⟩
        let Sx := wipeS (F x T0) vs1
        let P1 : Nat → Hp → Prop := fun j H => ∃ G acc, StOk K (b.hold D0 (.lst acc)) G H (wipe σ5 vs1) Sx ∧ Ex G7 G ∧ RpA K G acc (lcOut2 ys p p1 f (xs.take i) ++ (((ys x).take j).filter (p1 x)).map (f x))
        refine ⟨fun j k H => k = (ys x).length - j ∧ j ≤ (ys x).length ∧ P1 j H, ⟨(ys x).length, by simp, Nat.zero_le _, ?_⟩, ?_⟩
        · refine ⟨G7, acc, st7.wipe vs1, Ex.refl _, ?_⟩
          simp only [List.take_zero, List.filter_nil, List.map_nil, List.append_nil]
          exact racc.mono (x4.trans (x6.trans x7))
        · rintro j k H8 ⟨rfl, hjl, G8, acc8, st8, x8, racc8⟩
          by_cases hlt1 : j < (ys x).length
          · refine .inr ⟨w1.goes _ j G8 H8 _ _ x8 st8 trivial (by rw [hlen1]; exact hlt1), P1 (j + 1), fun H' p' => ⟨(ys x).length - (j + 1), by omega, rfl, hlt1, p'⟩, fun v9 H9 y9 => ?_⟩
            have hy : (ys x)[j]? = some (ys x)[j] := List.getElem?_eq_getElem hlt1
            generalize hyy : (ys x)[j] = yy at hy
            have hym : yy ∈ ys x := List.mem_of_getElem? hy
            have hout1 : ((ys x).take (j + 1)).filter (p1 x) = ((ys x).take j).filter (p1 x) ++ (if p1 x yy = true then [yy] else []) := by
              rw [take_succ' hy, List.filter_append]
              by_cases c : p1 x yy = true <;> simp [c]
            obtain ⟨G9, st9, x9, r9⟩ := w1.yields _ j (enc1 yy) G8 H8 _ _ v9 H9 x8 st8 trivial (by rw [List.getElem?_map, hy] <;> rfl) y9
            refine gd1 _ x hxm yy hym G9 H9 _ _ v9 _ st9 r9 fun σ10 st10 w10 => ?_
            have hwp1 : wipe σ10 vs1 = wipe σ5 vs1 := (w10 vs1 hj1).trans (wipe_wipe σ5 vs1 vs1 fun _ h => h)
            refine ⟨hwp1, _, x, yy, hxm, hp, hym, G9, st10, fun G11 H11 st11 x11 => ?_⟩
            have hn : acc8.length < sizeLine := by
              rw [racc8.length, List.length_append]
              have h1 : (((ys x).take j).filter (p1 x)).length ≤ ((ys x).filter (p1 x)).length := ((List.take_sublist j (ys x)).filter _).length_le
              rw [List.length_map] at hbig ⊢
              omega
            cases hp1 : p1 x yy with
            | true =>
              rw [hp1, if_pos rfl] at hout1
              simp only [if_true]
              refine ⟨_, x, yy, hxm, hp, hym, hp1, G11, st11, fun u G12 H12 st12 x12 r12 => ?_⟩
              obtain ⟨st13, k1, k2, k3⟩ := st12.unhold hB hH0 hG0 (nt acc8)
              refine ⟨acc8, k1, hn, G12, acc8 ++ [u], ?_, x8.trans (x9.trans (x11.trans x12)), ?_⟩
              · have s9 := (st13.poke (o := .lst (acc8 ++ [u])) k2 hB k3).hold upd_same k2 k3
                have s10 := s9.wipe vs1
                rw [hw2 x hxm yy hym, hwp1] at s10
                exact s10
              · rw [hout1, List.map_append, ← List.append_assoc]
                exact (racc8.mono (x9.trans (x11.trans x12))).append (.cons r12 .nil)
            | false =>
              rw [hp1] at hout1
              simp only [Bool.false_eq_true, if_false, List.append_nil] at hout1 ⊢
              show P1 (j + 1) H11
              refine ⟨G11, acc8, ?_, x8.trans (x9.trans x11), ?_⟩
              · have s10 := st11.wipe vs1
                rw [hw2 x hxm yy hym, hwp1] at s10
                exact s10
              · rw [hout1]
                exact racc8.mono (x9.trans x11)
          · have e : j = (ys x).length := by omega
            subst e
            refine .inl ⟨by have := w1.stops _ G8 H8 _ _ x8 st8 trivial; rw [hlen1] at this; exact this, ?_⟩
            rw [List.take_length] at racc8
            show Pv (i + 1) H8
            refine ⟨G8, acc8, ?_, x3.trans (x4.trans (x6.trans (x7.trans x8))), by rw [hout]; exact racc8⟩
            have s10 := st8.wipe vs
            rw [show wipeS Sx vs = T0 from hw1 x hxm, wipe_wipe σ5 vs vs1 hv, hwp] at s10
            exact s10
    · have e : i = xs.length := by omega
      subst e
      refine .inl ⟨by have := w.stops _ G3 H3 _ _ x3 st3 trivial; rw [hlen] at this; exact this, ?_⟩
      rw [List.take_length] at racc
      obtain ⟨st4, k1, k2, k3⟩ := st3.unhold hB hH0 hG0 (nt acc)
      have s5 := st2.back st4 x3 no
      rw [show back S1 T0 vs = S1 from back_self] at s5
      refine q _ _ _ s5 (x2.trans x3) ⟨D0, acc, rfl, k1, racc, ⟨hB, k2, fun _ => hH0, fun z => by cases z⟩, fun i' q w' z => ?_⟩
      subst z
      exact hoD i' _ w' rfl
end
section
variable {X : Cx} {tb : Tbs} {b : Bx tb} {S S1 : List Sl} {tg it tg1 it1 elt : Expr} {ifs ifs1 : List Expr} {pos : Pos} {α β γ : Type} {xs : List α} {ys : α → List β} {enc : α → PyData} {enc1 : β → PyData} {js js1 vs1 : List Nat} {g g1 : TG} {scope : Scope} {own : List (Str × Nat)} {F : α → List Sl → List Sl} {F1 : β → List Sl → List Sl}
/-- [f x y for x in xs if p for y in ys x if p1] -/
theorem E_lc2 (p : α → Bool) (p1 : α → β → Bool) (f : α → β → PyData) (hc : X.calm = true) (hN : X.N.Nodup) (hi : IT X b S tg it (xs.map enc) NoC S1) (ok : BlkOk X.N X.env.scope scope own) (hv : ∀ j ∈ vs1, j ∈ own.map (·.2)) (hg : ∀ s H C cl fp, PG (Blk X scope s H C cl fp) tg g) (gd : ∀ b : Bx tb, ∀ x ∈ xs, GD X.K b g (enc x) (F x) js) (hj : ∀ j ∈ js, j ∈ own.map (·.2))
    (hg1 : ∀ s H C cl fp, PG (Blk X scope s H C cl fp) tg1 g1) (gd1 : ∀ b : Bx tb, ∀ x ∈ xs, ∀ y ∈ ys x, GD X.K b g1 (enc1 y) (F1 y) js1) (hj1 : ∀ j ∈ js1, j ∈ vs1)
    (ht : ∀ (b : Bx tb) (x : α), x ∈ xs → ∀ s H C cl fp, PTs (Blk X scope s H C cl fp) ifs (tT X.K b (F x (wipeS S1 (own.map (·.2)))) (p x) (F x (wipeS S1 (own.map (·.2))))))
    (hi1 : ∀ (b : Bx tb) (x : α), x ∈ xs → p x = true → ∀ s H C cl fp, IT (Blk X scope s H C cl fp) b (F x (wipeS S1 (own.map (·.2)))) tg1 it1 ((ys x).map enc1) NoC (F x (wipeS S1 (own.map (·.2)))))
    (ht1 : ∀ (b : Bx tb) (x : α) (y : β), x ∈ xs → p x = true → y ∈ ys x → ∀ s H C cl fp, PTs (Blk X scope s H C cl fp) ifs1 (tT X.K b (F1 y (wipeS (F x (wipeS S1 (own.map (·.2)))) vs1)) (p1 x y) (F1 y (wipeS (F x (wipeS S1 (own.map (·.2)))) vs1))))
    (he : ∀ (b : Bx tb) (x : α) (y : β), x ∈ xs → p x = true → y ∈ ys x → p1 x y = true → ∀ s H C cl fp, E (Blk X scope s H C cl fp) b (F1 y (wipeS (F x (wipeS S1 (own.map (·.2)))) vs1)) elt (.val (f x y)) (F1 y (wipeS (F x (wipeS S1 (own.map (·.2)))) vs1)))
    (hw : ∀ x ∈ xs, wipeS (F x (wipeS S1 (own.map (·.2)))) (own.map (·.2)) = wipeS S1 (own.map (·.2))) (hw1 : ∀ x ∈ xs, wipeS (wipeS (F x (wipeS S1 (own.map (·.2)))) vs1) (own.map (·.2)) = wipeS S1 (own.map (·.2))) (hw2 : ∀ x ∈ xs, ∀ y ∈ ys x, wipeS (F1 y (wipeS (F x (wipeS S1 (own.map (·.2)))) vs1)) vs1 = wipeS (F x (wipeS S1 (own.map (·.2)))) vs1)
    (hz : (lcOut2 ys p p1 f xs).length < sizeLine) (no : noOwnB S1 (own.map (·.2)) = true) (hs : ∀ x, foldedSetIterable it X.env x = pure x := by intro _; rfl) (hs1 : ∀ env x, foldedSetIterable it1 env x = pure x := by intro _ _; rfl) :
    E X b S (.ListComp elt [⟨tg, it, ifs, 0⟩, ⟨tg1, it1, ifs1, 0⟩] scope pos) (.new (lcOut2 ys p p1 f xs)) S1 := by
  have ht' : ∀ s H C cl fp, PTs (Blk X scope s H C cl fp) ifs (lcT2 tb X.K xs F (wipeS S1 (own.map (·.2))) p) := fun s H C cl fp => ⟨fun pins s1 σ H1 Q I ⟨b, x, hx, q⟩ => (ht b x hx s H C cl fp).run pins s1 σ H1 Q I q⟩
  have hi1' : ∀ s H C cl fp, PI (Blk X scope s H C cl fp) tg1 it1 (lcI2 tb X.K xs ys enc1 F (wipeS S1 (own.map (·.2))) p) := fun s H C cl fp => ⟨fun pins s1 σ H1 Q I ⟨b, x, hx, hp, q⟩ => (hi1 b x hx hp s H C cl fp).run pins s1 σ H1 Q I q⟩
  have ht1' : ∀ s H C cl fp, PTs (Blk X scope s H C cl fp) ifs1 (lcU2 tb X.K xs ys F F1 (wipeS S1 (own.map (·.2))) vs1 p p1) := fun s H C cl fp => ⟨fun pins s1 σ H1 Q I ⟨b, x, y, hx, hp, hy, q⟩ => (ht1 b x y hx hp hy s H C cl fp).run pins s1 σ H1 Q I q⟩
  have he' : ∀ s H C cl fp, PE (Blk X scope s H C cl fp) elt (lcE2 tb X.K xs ys F F1 (wipeS S1 (own.map (·.2))) vs1 p p1 f) := fun s H C cl fp => ⟨fun pins s1 σ H1 Q I ⟨b, x, y, hx, hp, hy, hp1, q⟩ => (he b x y hx hp hy hp1 s H C cl fp).run pins s1 σ H1 Q I q⟩
  exact PE.w (pe_lc2 hc hN hi ok hv hg ht' hi1' hg1 ht1' he' hs hs1) fun σ H Q h => lc2_sem gd hj gd1 hj1 hv hw hw1 hw2 hz (NoOwn.of no) σ H Q h
/-- y = [f x y for ..], y a name that the comprehension leaves alone: an own list -/
theorem B_setLc2 (i : Nat) {y : Str} {py spos : Pos} {rest : List Stmt} {P : Po} (p : α → Bool) (p1 : α → β → Bool) (f : α → β → PyData) (hc : X.calm = true) (hN : X.N.Nodup) (hy : X.N[i]? = some y) (hyl : X.env.scope.names.lookup y = some .local)
    (hsw : swapsWith (.ListComp elt [⟨tg, it, ifs, 0⟩, ⟨tg1, it1, ifs1, 0⟩] scope pos) (some (.Name y py)) spos.line X.env = pure true)
    (hi : IT X b S tg it (xs.map enc) NoC S1) (ok : BlkOk X.N X.env.scope scope own) (hv : ∀ j ∈ vs1, j ∈ own.map (·.2)) (hg : ∀ s H C cl fp, PG (Blk X scope s H C cl fp) tg g) (gd : ∀ b : Bx tb, ∀ x ∈ xs, GD X.K b g (enc x) (F x) js) (hj : ∀ j ∈ js, j ∈ own.map (·.2))
    (hg1 : ∀ s H C cl fp, PG (Blk X scope s H C cl fp) tg1 g1) (gd1 : ∀ b : Bx tb, ∀ x ∈ xs, ∀ y ∈ ys x, GD X.K b g1 (enc1 y) (F1 y) js1) (hj1 : ∀ j ∈ js1, j ∈ vs1)
    (ht : ∀ (b : Bx tb) (x : α), x ∈ xs → ∀ s H C cl fp, PTs (Blk X scope s H C cl fp) ifs (tT X.K b (F x (wipeS S1 (own.map (·.2)))) (p x) (F x (wipeS S1 (own.map (·.2))))))
    (hi1 : ∀ (b : Bx tb) (x : α), x ∈ xs → p x = true → ∀ s H C cl fp, IT (Blk X scope s H C cl fp) b (F x (wipeS S1 (own.map (·.2)))) tg1 it1 ((ys x).map enc1) NoC (F x (wipeS S1 (own.map (·.2)))))
    (ht1 : ∀ (b : Bx tb) (x : α) (y : β), x ∈ xs → p x = true → y ∈ ys x → ∀ s H C cl fp, PTs (Blk X scope s H C cl fp) ifs1 (tT X.K b (F1 y (wipeS (F x (wipeS S1 (own.map (·.2)))) vs1)) (p1 x y) (F1 y (wipeS (F x (wipeS S1 (own.map (·.2)))) vs1))))
    (he : ∀ (b : Bx tb) (x : α) (y : β), x ∈ xs → p x = true → y ∈ ys x → p1 x y = true → ∀ s H C cl fp, E (Blk X scope s H C cl fp) b (F1 y (wipeS (F x (wipeS S1 (own.map (·.2)))) vs1)) elt (.val (f x y)) (F1 y (wipeS (F x (wipeS S1 (own.map (·.2)))) vs1)))
    (hw : ∀ x ∈ xs, wipeS (F x (wipeS S1 (own.map (·.2)))) (own.map (·.2)) = wipeS S1 (own.map (·.2))) (hw1 : ∀ x ∈ xs, wipeS (wipeS (F x (wipeS S1 (own.map (·.2)))) vs1) (own.map (·.2)) = wipeS S1 (own.map (·.2))) (hw2 : ∀ x ∈ xs, ∀ y ∈ ys x, wipeS (F1 y (wipeS (F x (wipeS S1 (own.map (·.2)))) vs1)) vs1 = wipeS (F x (wipeS S1 (own.map (·.2)))) vs1)
    (hz : (lcOut2 ys p p1 f xs).length < sizeLine) (no : noOwnB S1 (own.map (·.2)) = true) (k : SS X b (S1.set i (.own true (lcOut2 ys p p1 f xs))) rest P) (hs : ∀ x, foldedSetIterable it X.env x = pure x := by intro _; rfl) (hs1 : ∀ env x, foldedSetIterable it1 env x = pure x := by intro _ _; rfl) :
    SS X b S (.Assign [.Name y py] (.ListComp elt [⟨tg, it, ifs, 0⟩, ⟨tg1, it1, ifs1, 0⟩] scope pos) spos :: rest) P := by
  have ht' : ∀ s H C cl fp, PTs (Blk X scope s H C cl fp) ifs (lcT2 tb X.K xs F (wipeS S1 (own.map (·.2))) p) := fun s H C cl fp => ⟨fun pins s1 σ H1 Q I ⟨b, x, hx, q⟩ => (ht b x hx s H C cl fp).run pins s1 σ H1 Q I q⟩
  have hi1' : ∀ s H C cl fp, PI (Blk X scope s H C cl fp) tg1 it1 (lcI2 tb X.K xs ys enc1 F (wipeS S1 (own.map (·.2))) p) := fun s H C cl fp => ⟨fun pins s1 σ H1 Q I ⟨b, x, hx, hp, q⟩ => (hi1 b x hx hp s H C cl fp).run pins s1 σ H1 Q I q⟩
  have ht1' : ∀ s H C cl fp, PTs (Blk X scope s H C cl fp) ifs1 (lcU2 tb X.K xs ys F F1 (wipeS S1 (own.map (·.2))) vs1 p p1) := fun s H C cl fp => ⟨fun pins s1 σ H1 Q I ⟨b, x, y, hx, hp, hy, q⟩ => (ht1 b x y hx hp hy s H C cl fp).run pins s1 σ H1 Q I q⟩
  have he' : ∀ s H C cl fp, PE (Blk X scope s H C cl fp) elt (lcE2 tb X.K xs ys F F1 (wipeS S1 (own.map (·.2))) vs1 p p1 f) := fun s H C cl fp => ⟨fun pins s1 σ H1 Q I ⟨b, x, y, hx, hp, hy, hp1, q⟩ => (he b x y hx hp hy hp1 s H C cl fp).run pins s1 σ H1 Q I q⟩
  refine ss_cons (Mid := fun S' => S' = S1.set i (.own true (lcOut2 ys p p1 f xs))) (PS.w (ps_setLc2 hc hN hy hyl hsw hi ok hv hg ht' hi1' hg1 ht1' he' hs hs1) fun D σ H ⟨G, st, q1, _⟩ => ?_) fun S' h => by rw [h]; exact k
  exact lc2_sem gd hj gd1 hj1 hv hw hw1 hw2 hz (NoOwn.of no) σ H _ ⟨G, st, fun v G2 H2 st2 x2 r2 => q1 G2 H2 _ _ (st2.putNew r2) x2 rfl⟩
end
end D

set_option Elab.async false
set_option linter.all false
set_option maxRecDepth 100000
set_option maxHeartbeats 1000000
set_option autoImplicit false
/-! Dl15: dicts whose keys are ints and whose values are True. -/
namespace D
open PySem PySem.Spec PyProof.Rows L2
abbrev bDl (ks : List Int) : List (PyData × PyData) := ks.map fun k => (.int k, .bool true)
abbrev bD (ks : List Int) : PyData := .dict (bDl ks)
abbrev vB (ks : List Int) : List (Key × V) := ks.map fun k => (.inl k, .bl true)
def addK (ks : List Int) (k : Int) : List Int := if k ∈ ks then ks else ks ++ [k]
theorem putK_true (ks : List Int) (k : Int) : putK (vB ks) (.inl k) (.bl true) = vB (addK ks k) := by
  have e : ((vB ks).any fun p => decide (p.1 = .inl k)) = decide (k ∈ ks) := by
    rw [List.any_map]
    rw [Bool.eq_iff_iff, List.any_eq_true, decide_eq_true_eq]
    constructor
    · rintro ⟨x, hx, hd⟩
      have : (Sum.inl x : Key) = .inl k := of_decide_eq_true hd
      injection this with this
      subst this
      exact hx
    · intro hk
      exact ⟨k, hk, decide_eq_true rfl⟩
  unfold putK addK
  rw [e]
  by_cases c : k ∈ ks
  · rw [if_pos (decide_eq_true c), if_pos c]
    show List.map _ (List.map _ ks) = List.map _ ks
    rw [List.map_map]
    refine List.map_congr_left fun x _ => ?_
    show (if (Sum.inl x : Key) = .inl k then _ else _) = _
    split <;> rfl
  · rw [if_neg (by rw [decide_eq_false c]; decide), if_neg c]
    show List.map _ ks ++ _ = List.map _ (ks ++ [k])
    rw [List.map_append]
    rfl
theorem RpK.ofTrue {K : PySem.W.Frag} {G : Hp} : ∀ ks : List Int, RpK K G (vB ks) (bDl ks)
  | [] => .nil
  | k :: ks => .cons (k := .inl k) (.bl true) (RpK.ofTrue ks)
def addAll (acc l : List Int) : List Int := l.foldl addK acc
theorem addK_len (ks : List Int) (k : Int) : (addK ks k).length ≤ ks.length + 1 := by
  unfold addK
  split
  · omega
  · rw [List.length_append]; exact Nat.le_refl _
theorem addAll_len : ∀ (l acc : List Int), (addAll acc l).length ≤ acc.length + l.length
  | [], acc => Nat.le_refl _
  | k :: l, acc => by
    have h1 := addAll_len l (addK acc k)
    have h2 := addK_len acc k
    show (addAll (addK acc k) l).length ≤ _
    rw [List.length_cons]
    omega
theorem addAll_snoc (acc l : List Int) (k : Int) : addAll acc (l ++ [k]) = addK (addAll acc l) k := by
  unfold addAll
  rw [List.foldl_append]
  rfl
theorem mem_addK {ks : List Int} {k j : Int} : j ∈ addK ks k ↔ j ∈ ks ∨ j = k := by
  unfold addK
  split
  · next h => exact ⟨.inl, fun z => z.elim id fun e => e ▸ h⟩
  · rw [List.mem_append, List.mem_singleton]
theorem mem_addAll : ∀ {l acc : List Int} {j : Int}, j ∈ addAll acc l ↔ j ∈ acc ∨ j ∈ l
  | [], acc, j => by simp [addAll]
  | k :: l, acc, j => by
    show j ∈ addAll (addK acc k) l ↔ _
    rw [mem_addAll, mem_addK, List.mem_cons]
    constructor
    · rintro ((h | h) | h)
      · exact .inl h
      · exact .inr (.inl h)
      · exact .inr (.inr h)
    · rintro (h | h | h)
      · exact .inl (.inl h)
      · exact .inl (.inr h)
      · exact .inr h
theorem addK_nodup {ks : List Int} (h : ks.Nodup) (k : Int) : (addK ks k).Nodup := by
  unfold addK
  split
  · exact h
  · next hk => exact List.nodup_append.mpr ⟨h, by simp, fun a ha b hb => by rw [List.mem_singleton.mp hb]; exact fun e => hk (e ▸ ha)⟩
theorem addAll_nodup : ∀ (l : List Int) {acc : List Int}, acc.Nodup → (addAll acc l).Nodup
  | [], acc, h => h
  | k :: l, acc, h => addAll_nodup l (addK_nodup h k)
end D

set_option Elab.async false
set_option linter.all false
set_option maxRecDepth 100000
set_option maxHeartbeats 1000000
set_option autoImplicit false
/-! Dl16: {k: True for .. for ..}. -/
namespace D
open PySem PySem.Spec PyProof.Rows L2
section
variable {K : PySem.W.Frag} {tb : Tbs} {b : Bx tb} {S S1 : List Sl} {α β : Type} {xs : List α} {ys : α → List β} {enc : α → PyData} {enc1 : β → PyData} {vs vs1 js js1 : List Nat} {g g1 : TG}
/-- the keys over two walks, as they come -/
def keys2 (ys : α → List β) (p : α → Bool) (p1 : α → β → Bool) (f : α → β → Int) (l : List α) : List Int := (l.filter p).flatMap fun x => ((ys x).filter (p1 x)).map (f x)
theorem keys2_snoc (ys : α → List β) (p : α → Bool) (p1 : α → β → Bool) (f : α → β → Int) (l : List α) (x : α) : keys2 ys p p1 f (l ++ [x]) = keys2 ys p p1 f l ++ (if p x = true then ((ys x).filter (p1 x)).map (f x) else []) := by
  unfold keys2
  rw [List.filter_append, List.flatMap_append]
  by_cases c : p x = true <;> simp [c]
/-- the key's reading and the value's -/
def dcK2 (tb : Tbs) (K : PySem.W.Frag) (xs : List α) (ys : α → List β) (F : α → List Sl → List Sl) (F1 : β → List Sl → List Sl) (T0 : List Sl) (vs1 : List Nat) (p : α → Bool) (p1 : α → β → Bool) (f : α → β → Int) : TE := fun σ H Q => ∃ (b : Bx tb) (x : α) (y : β), x ∈ xs ∧ p x = true ∧ y ∈ ys x ∧ p1 x y = true ∧ tE K b (F1 y (wipeS (F x T0) vs1)) (.val (.int (f x y))) (F1 y (wipeS (F x T0) vs1)) σ H Q
def dcV2 (tb : Tbs) (K : PySem.W.Frag) (xs : List α) (ys : α → List β) (F : α → List Sl → List Sl) (F1 : β → List Sl → List Sl) (T0 : List Sl) (vs1 : List Nat) : TE := fun σ H Q => ∃ (b : Bx tb) (x : α) (y : β), x ∈ xs ∧ y ∈ ys x ∧ tE K b (F1 y (wipeS (F x T0) vs1)) (.val (.bool true)) (F1 y (wipeS (F x T0) vs1)) σ H Q
theorem dc2_sem {F : α → List Sl → List Sl} {F1 : β → List Sl → List Sl} {p : α → Bool} {p1 : α → β → Bool} {f : α → β → Int}
    (gd : ∀ b : Bx tb, ∀ x ∈ xs, GD K b g (enc x) (F x) js) (hj : ∀ j ∈ js, j ∈ vs) (gd1 : ∀ b : Bx tb, ∀ x ∈ xs, ∀ y ∈ ys x, GD K b g1 (enc1 y) (F1 y) js1) (hj1 : ∀ j ∈ js1, j ∈ vs1) (hv : ∀ j ∈ vs1, j ∈ vs)
    (hw : ∀ x ∈ xs, wipeS (F x (wipeS S1 vs)) vs = wipeS S1 vs) (hw1 : ∀ x ∈ xs, wipeS (wipeS (F x (wipeS S1 vs)) vs1) vs = wipeS S1 vs) (hw2 : ∀ x ∈ xs, ∀ y ∈ ys x, wipeS (F1 y (wipeS (F x (wipeS S1 vs)) vs1)) vs1 = wipeS (F x (wipeS S1 vs)) vs1)
    (hz : (keys2 ys p p1 f xs).length < sizeLine) (no : NoOwn S1 vs)
    (σ : L2.St) (H : Hp) (Q : VK) (h : ∃ G, StOk K b G H σ S ∧ ∀ G2 H2 D0, StOk K b G2 H2 σ S1 → Ex G G2 → H2 D0 = some (.dK (vB (addAll [] (keys2 ys p p1 f xs)))) → G2 D0 = none → b.B D0 = none → b.H0 D0 = none → (∀ i q, Owns σ S1 i q → q ≠ D0) → Q (.ref D0) H2) :
    DC.tDc2 (tI K b S (xs.map enc) NoC S1) g (lcT2 tb K xs F (wipeS S1 vs) p) (lcI2 tb K xs ys enc1 F (wipeS S1 vs) p) g1 (lcU2 tb K xs ys F F1 (wipeS S1 vs) vs1 p p1) (dcK2 tb K xs ys F F1 (wipeS S1 vs) vs1 p p1 f) (dcV2 tb K xs ys F F1 (wipeS S1 vs) vs1) vs vs1 σ H Q := by
  obtain ⟨G, st, q⟩ := h
  refine ⟨G, st, fun J G2 H2 st2 x2 c2 w D0 hD => ?_⟩
  have hGD : G2 D0 = none := st2.sub.dom hD
  have hB : b.B D0 = none := st2.base.dom hD
  have hH0 : b.H0 D0 = none := st2.nw _ hD
  have hG0 : b.G0 D0 = none := st2.g0.dom hGD
  have hoD : ∀ i q, Owns σ S1 i q → q ≠ D0 := fun i q w => st2.ownNe hD w
  have nt : ∀ (kvs : List (Key × V)) ps, HO.dK kvs ≠ .tbl ps := fun _ _ z => by cases z
  let T0 := wipeS S1 vs
  let Pv : Nat → Hp → Prop := fun i H => ∃ G, StOk K (b.hold D0 (.dK (vB (addAll [] (keys2 ys p p1 f (xs.take i)))))) G H (wipe σ vs) T0 ∧ Ex G2 G
  have hlen : (xs.map enc).length = xs.length := List.length_map ..
  have pre : ∀ i, (keys2 ys p p1 f (xs.take i)).length ≤ (keys2 ys p p1 f xs).length := fun i => by
    unfold keys2
    have e : xs.filter p = (xs.take i).filter p ++ (xs.drop i).filter p := by rw [← List.filter_append, List.take_append_drop]
    rw [e, List.flatMap_append, List.length_append]
    exact Nat.le_add_right _ _
  refine ⟨fun i m H => m = xs.length - i ∧ i ≤ xs.length ∧ Pv i H, ⟨xs.length, by simp, Nat.zero_le _, ?_⟩, ?_⟩
  · exact ⟨G2, ((st2.poke hGD hB hoD).wipe vs).hold upd_same hGD fun i' q w => (st2.wipe vs).ownNe hD w, Ex.refl _⟩
  · rintro i m H3 ⟨rfl, hi, G3, st3, x3⟩
    by_cases hlt : i < xs.length
    · refine .inr ⟨w.goes _ i G3 H3 _ _ x3 st3 trivial (by rw [hlen]; exact hlt), Pv (i + 1), fun H' p' => ⟨xs.length - (i + 1), by omega, rfl, hlt, p'⟩, fun v H4 y => ?_⟩
      have hx : xs[i]? = some xs[i] := List.getElem?_eq_getElem hlt
      generalize hxx : xs[i] = x at hx
      have hxm : x ∈ xs := List.mem_of_getElem? hx
      have hout : keys2 ys p p1 f (xs.take (i + 1)) = keys2 ys p p1 f (xs.take i) ++ (if p x = true then ((ys x).filter (p1 x)).map (f x) else []) := by
        rw [take_succ' hx, keys2_snoc]
      obtain ⟨G4, st4, x4, r4⟩ := w.yields _ i (enc x) G3 H3 _ _ v H4 x3 st3 trivial (by rw [List.getElem?_map, hx] <;> rfl) y
      refine gd _ x hxm G4 H4 _ _ v _ st4 r4 fun σ5 st5 w5 => ?_
      have hwp : wipe σ5 vs = wipe σ vs := (w5 vs hj).trans (wipe_wipe σ vs vs fun _ h => h)
      refine ⟨hwp, _, x, hxm, G4, st5, fun G6 H6 st6 x6 => ?_⟩
      cases hp : p x with
      | false =>
        simp only [Bool.false_eq_true, if_false]
        show Pv (i + 1) H6
        have hout' : keys2 ys p p1 f (xs.take (i + 1)) = keys2 ys p p1 f (xs.take i) := by rw [hout, hp]; simp
        refine ⟨G6, ?_, x3.trans (x4.trans x6)⟩
        rw [hout']
        have s10 := st6.wipe vs
        rw [hw x hxm, hwp] at s10
        exact s10
      | true =>
        simp only [if_true]
        rw [hp] at hout
        simp only [if_true] at hout
        have hbig := pre (i + 1)
        rw [hout, List.length_append] at hbig
        have hlen1 : ((ys x).map enc1).length = (ys x).length := List.length_map ..
        refine ⟨_, x, hxm, hp, G6, st6, fun J1 G7 H7 st7 x7 _ w1 => ?_⟩
        let Sx := wipeS (F x T0) vs1
        let P1 : Nat → Hp → Prop := fun j H => ∃ G, StOk K (b.hold D0 (.dK (vB (addAll [] (keys2 ys p p1 f (xs.take i) ++ (((ys x).take j).filter (p1 x)).map (f x)))))) G H (wipe σ5 vs1) Sx ∧ Ex G7 G
        refine ⟨fun j k H => k = (ys x).length - j ∧ j ≤ (ys x).length ∧ P1 j H, ⟨(ys x).length, by simp, Nat.zero_le _, ?_⟩, ?_⟩
        · refine ⟨G7, ?_, Ex.refl _⟩
          simp only [List.take_zero, List.filter_nil, List.map_nil, List.append_nil]
          exact st7.wipe vs1
        · rintro j k H8 ⟨rfl, hjl, G8, st8, x8⟩
          by_cases hlt1 : j < (ys x).length
          · refine .inr ⟨w1.goes _ j G8 H8 _ _ x8 st8 trivial (by rw [hlen1]; exact hlt1), P1 (j + 1), fun H' p' => ⟨(ys x).length - (j + 1), by omega, rfl, hlt1, p'⟩, fun v9 H9 y9 => ?_⟩
            have hy : (ys x)[j]? = some (ys x)[j] := List.getElem?_eq_getElem hlt1
            generalize hyy : (ys x)[j] = yy at hy
            have hym : yy ∈ ys x := List.mem_of_getElem? hy
            have hout1 : ((ys x).take (j + 1)).filter (p1 x) = ((ys x).take j).filter (p1 x) ++ (if p1 x yy = true then [yy] else []) := by
              rw [take_succ' hy, List.filter_append]
              by_cases c : p1 x yy = true <;> simp [c]
            obtain ⟨G9, st9, x9, r9⟩ := w1.yields _ j (enc1 yy) G8 H8 _ _ v9 H9 x8 st8 trivial (by rw [List.getElem?_map, hy] <;> rfl) y9
            refine gd1 _ x hxm yy hym G9 H9 _ _ v9 _ st9 r9 fun σ10 st10 w10 => ?_
            have hwp1 : wipe σ10 vs1 = wipe σ5 vs1 := (w10 vs1 hj1).trans (wipe_wipe σ5 vs1 vs1 fun _ h => h)
            refine ⟨hwp1, _, x, yy, hxm, hp, hym, G9, st10, fun G11 H11 st11 x11 => ?_⟩
            cases hp1 : p1 x yy with
            | true =>
              rw [hp1, if_pos rfl] at hout1
              simp only [if_true]
              refine ⟨_, x, yy, hxm, hp, hym, hp1, G11, st11, fun u G12 H12 st12 x12 r12 => ?_⟩
              refine ⟨_, x, yy, hxm, hym, G12, st12, fun u2 G14 H14 st14 x14 r14 => ?_⟩
              obtain ⟨st13, k1, k2, k3⟩ := st14.unhold hB hH0 hG0 (nt _)
              have eu : u = V.int (f x yy) := by cases r12; rfl
              have eu2 : u2 = V.bl true := by cases r14; rfl
              subst eu eu2
              have hn : (addAll [] (keys2 ys p p1 f (xs.take i) ++ (((ys x).take j).filter (p1 x)).map (f x))).length < sizeLine := by
                have h1 : (((ys x).take j).filter (p1 x)).length ≤ ((ys x).filter (p1 x)).length := ((List.take_sublist j (ys x)).filter _).length_le
                have h2 := addAll_len (keys2 ys p p1 f (xs.take i) ++ (((ys x).take j).filter (p1 x)).map (f x)) []
                rw [List.length_append, List.length_map] at h2
                rw [List.length_map] at hbig
                have h3 : ([] : List Int).length = 0 := rfl
                omega
              refine ⟨_, .inl (f x yy), rfl, k1, by rw [List.length_map]; exact hn, G14, ?_, x8.trans (x9.trans (x11.trans (x12.trans x14)))⟩
              rw [putK_true, ← addAll_snoc]
              have e9 : keys2 ys p p1 f (xs.take i) ++ (((ys x).take (j + 1)).filter (p1 x)).map (f x) = (keys2 ys p p1 f (xs.take i) ++ (((ys x).take j).filter (p1 x)).map (f x)) ++ [f x yy] := by
                rw [hout1, List.map_append, List.append_assoc]
                rfl
              rw [e9]
              have s9 := (st13.poke (o := .dK (vB (addAll [] ((keys2 ys p p1 f (xs.take i) ++ (((ys x).take j).filter (p1 x)).map (f x)) ++ [f x yy])))) k2 hB k3).hold upd_same k2 k3
              have s10 := s9.wipe vs1
              rw [hw2 x hxm yy hym, hwp1] at s10
              exact s10
            | false =>
              rw [hp1] at hout1
              simp only [Bool.false_eq_true, if_false, List.append_nil] at hout1 ⊢
              show P1 (j + 1) H11
              refine ⟨G11, ?_, x8.trans (x9.trans x11)⟩
              rw [hout1]
              have s10 := st11.wipe vs1
              rw [hw2 x hxm yy hym, hwp1] at s10
              exact s10
          · have e : j = (ys x).length := by omega
            subst e
            refine .inl ⟨by have := w1.stops _ G8 H8 _ _ x8 st8 trivial; rw [hlen1] at this; exact this, ?_⟩
            rw [List.take_length, ← hout] at st8
            show Pv (i + 1) H8
            refine ⟨G8, ?_, x3.trans (x4.trans (x6.trans (x7.trans x8)))⟩
            have s10 := st8.wipe vs
            rw [show wipeS Sx vs = T0 from hw1 x hxm, wipe_wipe σ5 vs vs1 hv, hwp] at s10
            exact s10
    · have e : i = xs.length := by omega
      subst e
      refine .inl ⟨by have := w.stops _ G3 H3 _ _ x3 st3 trivial; rw [hlen] at this; exact this, ?_⟩
      rw [List.take_length] at st3
      obtain ⟨st4, k1, k2, k3⟩ := st3.unhold hB hH0 hG0 (nt _)
      have s5 := st2.back st4 x3 no
      rw [show back S1 T0 vs = S1 from back_self] at s5
      exact q _ _ D0 s5 (x2.trans x3) k1 k2 hB hH0 hoD
end
end D

set_option Elab.async false
set_option linter.all false
set_option autoImplicit false
/-! Pq: the loads as keys of a dict (plain). -/
namespace D
open PySem
def stepK (ks : List Int) (x : Int) : List Int := addAll [] (keys2 (fun _ : Int => [0, x]) (fun _ => true) (fun _ _ => true) (fun l m => l + m) ks)
def loadK (ws : List Int) : List Int := ws.foldl stepK [0]
theorem keys_step (ks : List Int) (x : Int) : keys2 (fun _ : Int => [0, x]) (fun _ => true) (fun _ _ => true) (fun l m => l + m) ks = ks.flatMap fun l => [l + 0, l + x] := by
  unfold keys2
  rw [List.filter_eq_self.mpr (fun _ _ => rfl)]
  rfl
theorem keys_len : ∀ (ks : List Int) (x : Int), (ks.flatMap fun l => [l + 0, l + x]).length = 2 * ks.length
  | [], _ => rfl
  | k :: ks, x => by
    have ih := keys_len ks x
    rw [List.flatMap_cons, List.length_append, ih]
    show 2 + 2 * ks.length = 2 * (ks.length + 1)
    omega
theorem loadK_snoc (ws : List Int) (x : Int) : loadK (ws ++ [x]) = stepK (loadK ws) x := by
  unfold loadK
  rw [List.foldl_append]
  rfl
theorem loadK_len : ∀ (n : Nat) (ws : List Int), ws.length = n → (loadK ws).length ≤ 2 ^ n
  | 0, ws, h => by rw [List.eq_nil_of_length_eq_zero h]; decide
  | n + 1, ws, h => by
    obtain ⟨vs, x, rfl, hl⟩ := snoc_of h
    have ih := loadK_len n vs hl
    rw [loadK_snoc]
    unfold stepK
    rw [keys_step]
    have h1 := addAll_len ((loadK vs).flatMap fun l => [l + 0, l + x]) []
    rw [keys_len] at h1
    have h0 : ([] : List Int).length = 0 := rfl
    rw [Nat.pow_succ]
    omega
theorem loadK_mem : ∀ (n : Nat) (ws : List Int), ws.length = n → ∀ j, j ∈ loadK ws ↔ Sub ws j
  | 0, ws, h, j => by
    rw [List.eq_nil_of_length_eq_zero h]
    constructor
    · intro hj
      rw [List.mem_singleton.mp (show j ∈ [(0 : Int)] from hj)]
      exact ⟨[], List.Sublist.refl _, rfl⟩
    · rintro ⟨l, h1, h2⟩
      rw [List.sublist_nil.mp h1] at h2
      have h2' : (0 : Int) = j := h2
      show j ∈ [(0 : Int)]
      rw [← h2']
      exact List.mem_singleton.mpr rfl
  | n + 1, ws, h, j => by
    obtain ⟨vs, x, rfl, hl⟩ := snoc_of h
    have ih := loadK_mem n vs hl
    rw [loadK_snoc, sub_snoc, ← ih, ← ih]
    unfold stepK
    rw [keys_step, mem_addAll, List.mem_flatMap]
    constructor
    · rintro (z | ⟨l, h1, h2⟩)
      · cases z
      · rcases List.mem_cons.mp h2 with e | e
        · left; rw [e, Int.add_zero]; exact h1
        · right; rw [List.mem_singleton.mp e, show l + x - x = l by omega]; exact h1
    · rintro (z | z)
      · exact .inr ⟨j, z, by rw [Int.add_zero]; exact List.mem_cons_self⟩
      · exact .inr ⟨j - x, z, List.mem_cons_of_mem _ (List.mem_singleton.mpr (by omega))⟩
theorem loadK_nodup : ∀ (n : Nat) (ws : List Int), ws.length = n → (loadK ws).Nodup
  | 0, ws, h => by rw [List.eq_nil_of_length_eq_zero h]; show ([0] : List Int).Nodup; simp
  | n + 1, ws, h => by
    obtain ⟨vs, x, rfl, hl⟩ := snoc_of h
    rw [loadK_snoc]
    exact addAll_nodup _ List.nodup_nil
theorem loadsV_lt (ws : List Int) : (loadsV ws).Pairwise (· < ·) := by
  have : ∀ (n : Nat) (ws : List Int), ws.length = n → (loadsV ws).Pairwise (· < ·) := by
    intro n
    cases n with
    | zero =>
      intro ws h
      rw [List.eq_nil_of_length_eq_zero h]
      exact List.pairwise_singleton _ _
    | succ n =>
      intro ws h
      obtain ⟨vs, x, rfl, hl⟩ := snoc_of h
      rw [loadsV_snoc]
      exact setI_lt _
  exact this _ ws rfl
theorem loadK_sort (ws : List Int) : sortI (loadK ws) = loadsV ws := by
  have h1 := loadsV_lt ws
  have nd : (loadsV ws).Nodup := h1.imp fun h => by omega
  have pm : (loadsV ws).Perm (loadK ws) := (List.perm_ext_iff_of_nodup nd (loadK_nodup _ ws rfl)).mpr fun j => by
    rw [mem_loadsV, loadK_mem _ ws rfl]
  exact (sortI_one pm (h1.imp fun h => by omega)).symm
/-! ### loads weighed whatever is lost -/
def sureStep (ns : List Int) (fo : Option (List Int)) (L : List Int) : Option (List Int) := some (match fo with
  | none => loadK (leftV ns L)
  | some ks => addAll [] ((ks.filter fun j => decide (j ∈ loadK (leftV ns L))).map fun j => j))
def sureFold (ns : List Int) (Ls : List (List Int)) : Option (List Int) := Ls.foldl (sureStep ns) none
theorem sure_snoc (ns : List Int) (Ls : List (List Int)) (L : List Int) : sureFold ns (Ls ++ [L]) = sureStep ns (sureFold ns Ls) L := by
  unfold sureFold
  rw [List.foldl_append]
  rfl
theorem sure_spec (ns : List Int) (hn : ns.length ≤ 10) : ∀ (n : Nat) (Ls : List (List Int)), Ls.length = n + 1 → ∃ ks, sureFold ns Ls = some ks ∧ ks.Nodup ∧ ks.length ≤ 1024 ∧ ∀ j, j ∈ ks ↔ ∀ L ∈ Ls, Sub (leftV ns L) j
  | 0, Ls, h => by
    obtain ⟨Ms, L, rfl, hl⟩ := snoc_of h
    rw [List.eq_nil_of_length_eq_zero hl]
    have h1 := loadK_len _ (leftV ns L) rfl
    have h2 : 2 ^ (leftV ns L).length ≤ 2 ^ 10 := Nat.pow_le_pow_right (by decide) (by have := (leftV_sub ns L).length_le; omega)
    have h3 : (2 : Nat) ^ 10 = 1024 := rfl
    refine ⟨loadK (leftV ns L), rfl, loadK_nodup _ _ rfl, by omega, fun j => ?_⟩
    rw [loadK_mem _ _ rfl]
    exact ⟨fun h M hM => by rw [List.mem_singleton.mp (show M ∈ [L] from hM)]; exact h, fun h => h L (List.mem_singleton.mpr rfl)⟩
  | n + 1, Ls, h => by
    obtain ⟨Ms, L, rfl, hl⟩ := snoc_of h
    obtain ⟨ks, h1, h2, h3, h4⟩ := sure_spec ns hn n Ms hl
    rw [sure_snoc, h1]
    refine ⟨addAll [] ((ks.filter fun j => decide (j ∈ loadK (leftV ns L))).map fun j => j), rfl, addAll_nodup _ List.nodup_nil, ?_, fun j => ?_⟩
    · have a := addAll_len ((ks.filter fun j => decide (j ∈ loadK (leftV ns L))).map fun j => j) []
      have c := List.length_filter_le (fun j => decide (j ∈ loadK (leftV ns L))) ks
      rw [List.length_map] at a
      have h0 : ([] : List Int).length = 0 := rfl
      omega
    · rw [List.map_id', mem_addAll, List.mem_filter, decide_eq_true_eq, loadK_mem _ _ rfl, h4]
      constructor
      · rintro (z | ⟨a, c⟩)
        · cases z
        · intro M hM
          rcases List.mem_append.mp hM with hM | hM
          · exact a M hM
          · rw [List.mem_singleton.mp hM]; exact c
      · intro z
        exact .inr ⟨fun M hM => z M (List.mem_append_left _ hM), z L (List.mem_append_right _ (List.mem_singleton.mpr rfl))⟩
theorem asc_one {ms ks : List Int} (h1 : ms.Pairwise (· < ·)) (h2 : ks.Nodup) (h : ∀ j, j ∈ ms ↔ j ∈ ks) : ms = sortI ks := by
  have nd : ms.Nodup := h1.imp fun h => by omega
  exact sortI_one ((List.perm_ext_iff_of_nodup nd h2).mpr h) (h1.imp fun h => by omega)
def sureD : Option (List Int) → PyData
  | none => .none
  | some ks => bD ks
end D

set_option Elab.async false
set_option linter.all false
set_option maxRecDepth 100000
set_option maxHeartbeats 1000000
set_option autoImplicit false
/-! Dl17: rules for dicts of ints and True. -/
namespace D
open PySem PySem.Spec PyProof.Rows L2
section
variable {K : PySem.W.Frag} {tb : Tbs} {b : Bx tb} {G H : Hp} {σ : L2.St} {S : List Sl} {p : Addr}
theorem StOk.slotG (h : StOk K b G H σ S) {i : Nat} {ds : List (PyData × PyData)} (e : S[i]? = some (.dic ds)) : ∃ p vs, σ[i]? = some (some (.ref p)) ∧ Apart b G p true ∧ H p = some (.dK vs) ∧ RpK K G vs ds := by
  obtain ⟨o, h1, p, h2, h3, vs, h5, r⟩ := h.at_ i _ e
  exact ⟨p, vs, by rw [h1, h2], h3, h5, r⟩
theorem StOk.freezeG (h : StOk K b G H σ S) {i : Nat} {ds : List (PyData × PyData)} {vs : List (Key × V)} (e : S[i]? = some (.dic ds)) (e1 : σ[i]? = some (some (.ref p))) (hp : H p = some (.dK vs)) (r : RpK K G vs ds) (ap : Apart b G p true) (od : Obj) :
    Ex G (upd G p (.frz od (.dK vs))) ∧ StOk K b (upd G p (.frz od (.dK vs))) (upd H p (.frz od (.dK vs))) σ (S.set i (.val (.dict ds))) := by
  have x : Ex G (upd G p (.frz od (.dK vs))) := (Ex.refl G).new ap.hg
  have w : Owns σ S i p := ⟨⟨_, e, rfl⟩, e1⟩
  have h1 : StOk K b G H (σ.set i none) (S.set i .emp) := h.putEmp
  have hn : ∀ j q, Owns (σ.set i none) (S.set i .emp) j q → q ≠ p := fun j q w2 => by
    rcases w2.of_set with ⟨n, w3⟩ | ⟨_, z, _⟩
    · intro z
      subst z
      exact n (h.sep j i q w3 w)
    · cases z
  have h2 := h1.poke (o := .frz od (.dK vs)) ap.hg ap.hb hn
  have h3 := h2.know (o := .frz od (.dK vs)) ap.hg upd_same (ap.h0 rfl) hn
  have h4 := h3.putVal (i := i) (v := .ref p) (d := .dict ds) (.dic upd_same (RpK.mono x r))
  rw [List.set_set, List.set_set, set_same e1] at h4
  exact ⟨x, h4⟩
theorem RpK.trues : ∀ {ks : List Int} {vs : List (Key × V)}, RpK K G vs (bDl ks) → vs = vB ks
  | [], vs, h => by
    generalize hd : bDl [] = d at h
    cases h with
    | nil => rfl
    | cons h t => cases hd
  | k :: ks, vs, h => by
    generalize hd : bDl (k :: ks) = d at h
    cases h with
    | nil => cases hd
    | @cons k' v vs d ds h t =>
      have e1 : (PyData.int k, PyData.bool true) = (keyD k', d) := (List.cons.inj hd).1
      have e2 : bDl ks = ds := (List.cons.inj hd).2
      have e3 : PyData.int k = keyD k' := congrArg Prod.fst e1
      have e4 : PyData.bool true = d := congrArg Prod.snd e1
      subst e2
      subst e4
      have ek : k' = .inl k := by
        cases k' with
        | inl i => exact congrArg Sum.inl (by injection e3 with e; exact e.symm)
        | inr i => cases e3
      have ev : v = V.bl true := by cases h; rfl
      rw [ek, ev, RpK.trues t]
      rfl
theorem Rp.bD {ks : List Int} {v : V} (h : Rp K G v (D.bD ks)) : ∃ a o, v = .ref a ∧ G a = some (.frz o (.dK (vB ks))) := by
  generalize hd : D.bD ks = d at h
  cases h with
  | scr h =>
    exfalso
    cases ks with
    | nil => cases hd
    | cons p ks =>
      have := (PyData.dict.inj hd)
      cases (List.cons.inj this).1
  | @dic a o vs ds h t =>
    have e : D.bDl ks = ds := PyData.dict.inj hd
    subst e
    rw [t.trues] at h
    exact ⟨a, o, rfl, h⟩
  | _ => cases hd
theorem val_true (ks : List Int) (k : Int) : (valV (vB ks) (.inl k)).isSome = decide (k ∈ ks) := by
  induction ks with
  | nil => rfl
  | cons j ks ih =>
    by_cases c : j = k
    · have e : valV (vB (j :: ks)) (.inl k) = some (.bl true) := valV_pos (congrArg Sum.inl c)
      rw [e, decide_eq_true (by rw [c]; exact List.mem_cons_self)]
      rfl
    · have e : valV (vB (j :: ks)) (.inl k) = valV (vB ks) (.inl k) := valV_neg (fun z => c (by injection z))
      rw [e, ih]
      exact decide_eq_decide.mpr ⟨fun z => List.mem_cons_of_mem _ z, fun z => (List.mem_cons.mp z).elim (fun w => absurd w.symm c) id⟩
end
section
variable {X : Cx} {tb : Tbs} {b : Bx tb} {S S1 S2 S3 : List Sl} {e f tg it tg1 it1 kx vx : Expr} {ifs ifs1 : List Expr} {pos p1' p2 pd : Pos} {n : Int} {rest : List Stmt} {P : Po} {ks : List Int}
theorem B_freezeG (i : Nat) {ds : List (PyData × PyData)} (hs : S[i]? = some (.dic ds)) (h : SS X b (S.set i (.val (.dict ds))) rest P) : SS X b S rest P :=
  PSs.w (pss_lock h) fun D σ H ⟨G, st, q1, q2, q3, q4, q5⟩ => by
    obtain ⟨q, vs, e1, ap, hq, r⟩ := st.slotG hs
    refine ⟨q, _, hq, trivial, fun od => ?_⟩
    obtain ⟨x, st2⟩ := st.freezeG hs e1 hq r ap od
    exact ⟨_, st2, fun G3 H3 σ3 S3 st3 x3 h => q1 G3 H3 σ3 S3 st3 (x.trans x3) h, fun v G3 H3 σ3 S3 d st3 x3 h => q2 v G3 H3 σ3 S3 d st3 (x.trans x3) h, fun G3 H3 σ3 S3 st3 x3 h => q3 G3 H3 σ3 S3 st3 (x.trans x3) h, fun G3 H3 σ3 S3 st3 x3 h => q4 G3 H3 σ3 S3 st3 (x.trans x3) h, fun G3 H3 σ3 S3 cls d fo st3 x3 r h => q5 G3 H3 σ3 S3 cls d fo st3 (x.trans x3) r h⟩
/-- {k: True} -/
theorem E_dispB {k : Int} {j j2 : Nat} : E X b S (.Dict [some (.Constant (.int k) j p1')] [.Constant (.bool true) j2 p2] pos) (.val (bD [k])) S :=
  PE.w (pe_lock (pe_disp (pps_cons pe_int pe_bl pps_nil) rfl rfl (by simp) (show 1 ≤ 15 by decide))) fun σ H Q ⟨G, st, q⟩ => fun a ha => by
    refine ⟨upd_same, [(.inl k, .bl true)], rfl, (show 1 ≤ 15 by decide), a, _, rfl, upd_same, trivial, fun od => ?_⟩
    rw [upd_twice, upd_twice]
    exact q _ _ _ (st.new ha) (st.newEx ha) (.dic upd_same (RpK.ofTrue [k]))
/-- for k in d -/
theorem I_keysB (h : E X b S e (.val (bD ks)) S1) : IT X b S tg e (ks.map PyData.int) NoC S1 :=
  PI.w (pi_keys h) fun σ H Q ⟨G, st, q⟩ => ⟨G, st, fun v G2 H2 st2 x r => by
    obtain ⟨a, o, rfl, ha⟩ := r.bD
    refine ⟨a, o, rfl, .inl ⟨vB ks, st2.sub.at_ ha, q _ G2 H2 st2 x trivial ?_⟩⟩
    have hl : ∀ {tb : Tbs} {b : Bx tb} {G H : Hp} {σ : L2.St} {S : List Sl}, Ex G2 G → StOk X.K b G H σ S → H a = some (.frz o (.dK (vB ks))) := fun x3 st3 => st3.sub.at_ (x3.at_ ha)
    refine ⟨fun b i G H σ S x3 st3 _ hi => ⟨hl x3 st3, by simpa using hi⟩, fun b G H σ S x3 st3 _ => ⟨hl x3 st3, by simp⟩, fun b i d G H σ S x H' x3 st3 _ hd y => ?_⟩
    obtain ⟨rfl, k, v, e1, e2⟩ := y
    subst e2
    refine ⟨G, st3, Ex.refl G, ?_⟩
    rw [List.getElem?_map] at hd e1
    cases hq : ks[i]? with
    | none => rw [hq] at hd; cases hd
    | some pr =>
      rw [hq] at hd e1
      cases hd
      cases e1
      exact .int _⟩
/-- k in d, k not in d -/
theorem op_inB (hu : X.A.units + 1 < cLine) : OpR X (compareOp .In) (fun x y H Q => ∃ i a ks, x = V.int i ∧ y = V.ref a ∧ Rd H a (.dK (vB ks)) ∧ Q (.bl (decide (i ∈ ks))) H) := by
  intro pins s σ H x y v u Q I rx ry h
  obtain ⟨i, a, ks, rfl, rfl, hd, q⟩ := h
  obtain rfl : u = Value.ref a := ry
  refine d_in (o := valV (vB ks) (.inl i)) hu I (.inl ⟨vB ks, .inl i, hd, rfl, rfl⟩) rx fun s1 I1 => ?_
  rw [val_true]
  exact ⟨.bl _, H, I1, rfl, q⟩
theorem op_niB (hu : X.A.units + 1 < cLine) : OpR X (compareOp .NotIn) (fun x y H Q => ∃ i a ks, x = V.int i ∧ y = V.ref a ∧ Rd H a (.dK (vB ks)) ∧ Q (.bl (!decide (i ∈ ks))) H) := by
  intro pins s σ H x y v u Q I rx ry h
  obtain ⟨i, a, ks, rfl, rfl, hd, q⟩ := h
  obtain rfl : u = Value.ref a := ry
  refine d_notIn (o := valV (vB ks) (.inl i)) hu I (.inl ⟨vB ks, .inl i, hd, rfl, rfl⟩) rx fun s1 I1 => ?_
  rw [val_true]
  exact ⟨.bl _, H, I1, rfl, q⟩
theorem T_inB (hu : X.A.units + 1 < cLine) (ha : E X b S1 e (.val (.int n)) S2) (hb : E X b S2 f (.val (bD ks)) S3) (hm : behindInMarks .In f = false) : T X b S1 (.Compare e [.In] [f] pos) (decide (n ∈ ks)) S3 :=
  T_cmp (op_inB hu) (fun G H σ v w Q st r1 r2 q => by
    cases r1
    obtain ⟨a, o, rfl, h⟩ := r2.bD
    exact ⟨n, a, ks, rfl, rfl, .inr ⟨o, st.sub.at_ h⟩, q _ G H st (Ex.refl G) (.bl _)⟩) hm ha hb
theorem T_niB (hu : X.A.units + 1 < cLine) (ha : E X b S1 e (.val (.int n)) S2) (hb : E X b S2 f (.val (bD ks)) S3) (hm : behindInMarks .NotIn f = false) : T X b S1 (.Compare e [.NotIn] [f] pos) (!decide (n ∈ ks)) S3 :=
  T_cmp (op_niB hu) (fun G H σ v w Q st r1 r2 q => by
    cases r1
    obtain ⟨a, o, rfl, h⟩ := r2.bD
    exact ⟨n, a, ks, rfl, rfl, .inr ⟨o, st.sub.at_ h⟩, q _ G H st (Ex.refl G) (.bl _)⟩) hm ha hb
theorem E_niB (hu : X.A.units + 1 < cLine) (ha : E X b S1 e (.val (.int n)) S2) (hb : E X b S2 f (.val (bD ks)) S3) (hm : behindInMarks .NotIn f = false) : E X b S1 (.Compare e [.NotIn] [f] pos) (.val (.bool (!decide (n ∈ ks)))) S3 :=
  E_cmp (op_niB hu) (fun G H σ v w Q st r1 r2 q => by
    cases r1
    obtain ⟨a, o, rfl, h⟩ := r2.bD
    exact ⟨n, a, ks, rfl, rfl, .inr ⟨o, st.sub.at_ h⟩, q _ G H st (Ex.refl G) (.bl _)⟩) hm ha hb
end
theorem sw_trueD {kx vx : Expr} {gs : List Comprehension} {scope : Scope} {pos py : Pos} {y : Str} {l : Nat} {env : Env} (fn : env.scope.kind = .function) (loc : env.scope.names.lookup y = some .local) (line : (py.line == pos.line) = true)
    (no : (scope.names.any fun (n, k) => n == y && (k == .local || k == .cell)) = false) : swapsWith (.DictComp kx vx gs scope pos) (some (.Name y py)) l env = pure true := by
  have h1 : env.blockKind = .function := by unfold Env.blockKind; rw [fn]; rfl
  have h2 : env.kindOf y = some .local := loc
  unfold swapsWith
  simp only [h1, h2, no, line, Expr.pos]
  rfl
section
variable {X : Cx} {tb : Tbs} {b : Bx tb} {S S1 : List Sl} {tg it tg1 it1 kx vx : Expr} {ifs ifs1 : List Expr} {pos : Pos} {α β : Type} {xs : List α} {ys : α → List β} {enc : α → PyData} {enc1 : β → PyData} {js js1 vs1 : List Nat} {g g1 : TG} {scope : Scope} {own : List (Str × Nat)} {F : α → List Sl → List Sl} {F1 : β → List Sl → List Sl}
/-- y = {f x y: True for x in xs if p for y in ys x if p1}: an own dict -/
theorem B_setDc2 (i : Nat) {y : Str} {py spos : Pos} {rest : List Stmt} {P : Po} (p : α → Bool) (p1 : α → β → Bool) (f : α → β → Int) (hc : X.calm = true) (hN : X.N.Nodup) (hy : X.N[i]? = some y) (hyl : X.env.scope.names.lookup y = some .local)
    (hsw : swapsWith (.DictComp kx vx [⟨tg, it, ifs, 0⟩, ⟨tg1, it1, ifs1, 0⟩] scope pos) (some (.Name y py)) spos.line X.env = pure true)
    (hi : IT X b S tg it (xs.map enc) NoC S1) (ok : BlkOk X.N X.env.scope scope own) (hv : ∀ j ∈ vs1, j ∈ own.map (·.2)) (hg : ∀ s H C cl fp, PG (Blk X scope s H C cl fp) tg g) (gd : ∀ b : Bx tb, ∀ x ∈ xs, GD X.K b g (enc x) (F x) js) (hj : ∀ j ∈ js, j ∈ own.map (·.2))
    (hg1 : ∀ s H C cl fp, PG (Blk X scope s H C cl fp) tg1 g1) (gd1 : ∀ b : Bx tb, ∀ x ∈ xs, ∀ y ∈ ys x, GD X.K b g1 (enc1 y) (F1 y) js1) (hj1 : ∀ j ∈ js1, j ∈ vs1)
    (ht : ∀ (b : Bx tb) (x : α), x ∈ xs → ∀ s H C cl fp, PTs (Blk X scope s H C cl fp) ifs (tT X.K b (F x (wipeS S1 (own.map (·.2)))) (p x) (F x (wipeS S1 (own.map (·.2))))))
    (hi1 : ∀ (b : Bx tb) (x : α), x ∈ xs → p x = true → ∀ s H C cl fp, IT (Blk X scope s H C cl fp) b (F x (wipeS S1 (own.map (·.2)))) tg1 it1 ((ys x).map enc1) NoC (F x (wipeS S1 (own.map (·.2)))))
    (ht1 : ∀ (b : Bx tb) (x : α) (y : β), x ∈ xs → p x = true → y ∈ ys x → ∀ s H C cl fp, PTs (Blk X scope s H C cl fp) ifs1 (tT X.K b (F1 y (wipeS (F x (wipeS S1 (own.map (·.2)))) vs1)) (p1 x y) (F1 y (wipeS (F x (wipeS S1 (own.map (·.2)))) vs1))))
    (hk : ∀ (b : Bx tb) (x : α) (y : β), x ∈ xs → p x = true → y ∈ ys x → p1 x y = true → ∀ s H C cl fp, E (Blk X scope s H C cl fp) b (F1 y (wipeS (F x (wipeS S1 (own.map (·.2)))) vs1)) kx (.val (.int (f x y))) (F1 y (wipeS (F x (wipeS S1 (own.map (·.2)))) vs1)))
    (he : ∀ (b : Bx tb) (x : α) (y : β), x ∈ xs → y ∈ ys x → ∀ s H C cl fp, E (Blk X scope s H C cl fp) b (F1 y (wipeS (F x (wipeS S1 (own.map (·.2)))) vs1)) vx (.val (.bool true)) (F1 y (wipeS (F x (wipeS S1 (own.map (·.2)))) vs1)))
    (hw : ∀ x ∈ xs, wipeS (F x (wipeS S1 (own.map (·.2)))) (own.map (·.2)) = wipeS S1 (own.map (·.2))) (hw1 : ∀ x ∈ xs, wipeS (wipeS (F x (wipeS S1 (own.map (·.2)))) vs1) (own.map (·.2)) = wipeS S1 (own.map (·.2))) (hw2 : ∀ x ∈ xs, ∀ y ∈ ys x, wipeS (F1 y (wipeS (F x (wipeS S1 (own.map (·.2)))) vs1)) vs1 = wipeS (F x (wipeS S1 (own.map (·.2)))) vs1)
    (hz : (keys2 ys p p1 f xs).length < sizeLine) (no : noOwnB S1 (own.map (·.2)) = true) (k : SS X b (S1.set i (.dic (bDl (addAll [] (keys2 ys p p1 f xs))))) rest P) (hs : ∀ x, foldedSetIterable it X.env x = pure x := by intro _; rfl) (hs1 : ∀ env x, foldedSetIterable it1 env x = pure x := by intro _ _; rfl) :
    SS X b S (.Assign [.Name y py] (.DictComp kx vx [⟨tg, it, ifs, 0⟩, ⟨tg1, it1, ifs1, 0⟩] scope pos) spos :: rest) P := by
  have ht' : ∀ s H C cl fp, PTs (Blk X scope s H C cl fp) ifs (lcT2 tb X.K xs F (wipeS S1 (own.map (·.2))) p) := fun s H C cl fp => ⟨fun pins s1 σ H1 Q I ⟨b, x, hx, q⟩ => (ht b x hx s H C cl fp).run pins s1 σ H1 Q I q⟩
  have hi1' : ∀ s H C cl fp, PI (Blk X scope s H C cl fp) tg1 it1 (lcI2 tb X.K xs ys enc1 F (wipeS S1 (own.map (·.2))) p) := fun s H C cl fp => ⟨fun pins s1 σ H1 Q I ⟨b, x, hx, hp, q⟩ => (hi1 b x hx hp s H C cl fp).run pins s1 σ H1 Q I q⟩
  have ht1' : ∀ s H C cl fp, PTs (Blk X scope s H C cl fp) ifs1 (lcU2 tb X.K xs ys F F1 (wipeS S1 (own.map (·.2))) vs1 p p1) := fun s H C cl fp => ⟨fun pins s1 σ H1 Q I ⟨b, x, y, hx, hp, hy, q⟩ => (ht1 b x y hx hp hy s H C cl fp).run pins s1 σ H1 Q I q⟩
  have hk' : ∀ s H C cl fp, PE (Blk X scope s H C cl fp) kx (dcK2 tb X.K xs ys F F1 (wipeS S1 (own.map (·.2))) vs1 p p1 f) := fun s H C cl fp => ⟨fun pins s1 σ H1 Q I ⟨b, x, y, hx, hp, hy, hp1, q⟩ => (hk b x y hx hp hy hp1 s H C cl fp).run pins s1 σ H1 Q I q⟩
  have he' : ∀ s H C cl fp, PE (Blk X scope s H C cl fp) vx (dcV2 tb X.K xs ys F F1 (wipeS S1 (own.map (·.2))) vs1) := fun s H C cl fp => ⟨fun pins s1 σ H1 Q I ⟨b, x, y, hx, hy, q⟩ => (he b x y hx hy s H C cl fp).run pins s1 σ H1 Q I q⟩
  refine ss_cons (Mid := fun S' => S' = S1.set i (.dic (bDl (addAll [] (keys2 ys p p1 f xs))))) (PS.w (DC.ps_setDc2 hc hN hy hyl hsw hi ok hv hg ht' hi1' hg1 ht1' hk' he' hs hs1) fun D σ H ⟨G, st, q1, _⟩ => ?_) fun S' h => by rw [h]; exact k
  refine dc2_sem gd hj gd1 hj1 hv hw hw1 hw2 hz (NoOwn.of no) σ H _ ⟨G, st, fun G2 H2 D0 st2 x2 h1 h2 h3 h4 h5 => q1 G2 H2 _ _ (st2.put (i := i) (s := .dic (bDl (addAll [] (keys2 ys p p1 f xs)))) (v := some (.ref D0)) ⟨D0, rfl, ⟨h3, h2, fun _ => h4, fun z => by cases z⟩, _, h1, RpK.ofTrue _⟩ fun _ j q e _ w => ?_) x2 rfl⟩
  cases e
  exact h5 j D0 ⟨w.1, w.2⟩ rfl
end
end D

set_option Elab.async false
set_option linter.all false
set_option maxRecDepth 100000
set_option maxHeartbeats 1000000
set_option autoImplicit false
/-! Dl18: sorted of a dict of ints and True, at any length. -/
namespace SB
open PySem PySem.Spec PyProof.Rows L2 D
def rSortedB : List V → Hp → VK → Prop := fun xs H Q => ∃ (a : Addr) (ks : List Int), xs = [V.ref a] ∧ Rd H a (.dK (vB ks)) ∧ ks.length ≤ 100000 ∧
  ∀ (ms : List Int) (p : Addr), ms.Perm ks → ms.Pairwise (· ≤ ·) → H p = none → Q (.ref p) (upd H p (.lst (ms.map V.int)))
section
variable {X : Cx}
theorem cr_sortedB (hc : X.calm = true) : CallR X (.builtin "sorted") rSortedB := by
  intro pins s σ H vs us Q I r h
  obtain ⟨a, ks, rfl, hd, hn, q⟩ := h
  rw [Vals.ref1 r]
  obtain ⟨z, lo, es, rel, dd⟩ := dk_rd I.hok hd
  obtain ⟨ep, hat⟩ := dd.dictAt
  have hkeys : es.map (·.1) = ks.map Sum.inl := by
    rw [← rel.keys]
    show (List.map _ ks).map _ = _
    rw [List.map_map]
    rfl
  have hl : es.length = ks.length := by
    have e := congrArg List.length hkeys
    rwa [List.length_map, List.length_map] at e
  have sz : sizeLine = 16777216 ∨ 100000 ≤ sizeLine := .inr (by decide)
  have fit0 : es.length ≤ sizeLine := by
    have : 100000 ≤ sizeLine := by decide
    omega
  refine Calls.call_function_entry kind_sorted plain_sorted entry_sorted (args_sorted1 _) ?_
  unfold Builtin.«sorted»
  refine wpAny_bind (m := checkCount "sorted" 1 1 _) (wpAny_pure ?_)
  refine wpAny_bind (PySem.W.kdu_collect (A := X.A.in1) (PySem.W.kdl_dict (knd := mixKind X.prog X.w) (kvs := es) (ep := ep) lo) (I.ok.hd hc) hat fit0 fun h1 tk acc keep1 hacc => ?_)
  have len1 : acc.toList.length = ks.length := by rw [Array.length_toList, hacc.1, hl]
  have ints1 : IntsAre acc.toList ks := ints_each len1 fun j v e => by
    obtain ⟨k, x, e1, e2⟩ := hacc.2 j v (by rw [← Array.getElem?_toList]; exact e)
    have e3 : (es.map (·.1))[j]? = some k := by rw [List.getElem?_map, e1]; rfl
    rw [hkeys, List.getElem?_map] at e3
    obtain ⟨y, e4, e5⟩ := Option.map_eq_some_iff.mp e3
    subst e5
    rcases keyIs_shape (show keyIs (Sum.inl y) v = true from e2) with ⟨i, t, ek, ev⟩ | ⟨w, t, ek, ev⟩
    · cases ek
      exact ⟨y, t, e4, ev⟩
    · cases ek
  have fit : acc.toList.length ≤ sizeLine := by rw [len1, ← hl]; exact fit0
  have I1 : Inv X pins σ H { s with heap := h1, toks := tk } := I.kept keep1
  refine wpAny_bind (wpAny_newList ?_ fit)
  have obj1 : (h1.push (seqObj "list" acc.toList.toArray 0)).get? h1.objs.size = some (seqObj "list" acc.toList.toArray 0) := Heap.get?_push_size _ rfl
  show wpAny _ _ _ _ _ { s with heap := h1.push (seqObj "list" acc.toList.toArray 0), toks := tk }
  refine wpAny_bind (wpAny_holding (wpAny_call_entry slot_list_sort ⟨_, obj1, rfl⟩ entry_list_sort (SrtO.list_sort_ord (s := { s with heap := h1.push (seqObj "list" acc.toList.toArray 0), toks := tk }) SrtO.swo_int obj1 fit (fun h2 => SrtO.ints_sortable ints1 h2) fun out g1 g2 => ⟨_, rfl, ?_⟩) (args_list_sort _)))
  obtain ⟨a1, a2, a3⟩ := SrtO.ints_out ints1 g1 g2
  obtain ⟨cc, hcc⟩ := sortedHeap_at (vs := acc.toList) (out := out.toArray) obj1
  have fitO : ((out.map SrtO.iv).map V.int).length ≤ sizeLine := by rw [List.length_map, a2.length_eq, ← len1]; exact fit
  refine wpAny_pure ⟨_, rfl, .ref h1.objs.size, upd H h1.objs.size (.lst ((out.map SrtO.iv).map V.int)), I1.laid (t' := tk) (fun b u e => ?_) (Nat.le_refl _) ⟨fitO, out, cc, vals_of_ints a1, hcc⟩, rfl, q _ _ a2 a3 (I1.hok.fresh (Nat.le_refl _))⟩
  have hb : b < h1.objs.size := Heap.lt_size e
  rw [sortedHeap_old (Nat.ne_of_lt hb) (by rw [size_push']; exact Nat.lt_succ_of_lt hb)]
  exact Heap.get?_push_of_some _ e
end
end SB
namespace D
open PySem PySem.Spec PyProof.Rows L2
section
variable {X : Cx} {tb : Tbs} {b : Bx tb} {S S1 : List Sl} {e : Expr} {pos p : Pos} {ks : List Int}
/-- sorted(d) -/
theorem E_sortedB (hc : X.calm = true) (hm : X.mg "sorted" = none) (ha : E X b S e (.val (bD ks)) S1) (hz : ks.length ≤ 100000) (hg : Gl X "sorted" := by rfl) (he : starEach [e] X.env = (false, eval e X.env) :: starEach [] X.env := by rfl) (hpl : (backTo pos (starEach [] X.env)).any (·.1) = false := by rfl) : E X b S (.Call (.Name "sorted" p) [e] [] pos) (.new ((sortI ks).map .int)) S1 :=
  E_cb (pe_callB (SB.cr_sortedB hc) hg hm bb_sorted (A_cons ha A_nil he) (by decide) (by decide) he hpl) fun G H σ vs Q st r q => by
    cases r with
    | cons r1 rn =>
      cases rn
      obtain ⟨a, o, rfl, h⟩ := r1.bD
      refine ⟨a, ks, rfl, .inr ⟨o, st.sub.at_ h⟩, hz, fun ms p hp hu hn => ?_⟩
      rw [sortI_one hp hu]
      have z := st.newL hn (RpA.ofInts (K := X.K) (G := G) (sortI ks))
      exact q _ _ _ z.1 (Ex.refl G) z.2
end
end D

set_option Elab.async false
set_option linter.all false
set_option maxRecDepth 100000
set_option maxHeartbeats 1000000
set_option autoImplicit false
/-! Dl19: tuple(range(a, b)), tuple(range(b)); {k: True for .. if ..} as a value. -/
namespace D
open PySem PySem.Spec PyProof.Rows L2
section
variable {X : Cx} {tb : Tbs} {b : Bx tb} {S S1 S2 : List Sl} {e f : Expr} {pos p p2 pos2 : Pos} {n m : Int}
theorem rgV_from (m : Int) (k : Nat) : rgV m (m + (k : Int)) = ((List.range k).map fun (i : Nat) => m + (i : Int)).map V.int := by
  unfold rgV
  rw [show (m + (k : Int) - m).toNat = k by omega, List.map_map]
  rfl
theorem E_tupRg2 {k : Nat} (hc : X.calm = true) (hm : X.mg "tuple" = none) (hm2 : X.mg "range" = none) (ha : E X b S e (.val (.int m)) S1) (hb : E X b S1 f (.val (.int n)) S2) (hn : n = m + (k : Int)) (h0 : 0 ≤ m) (h1 : n ≤ 100000) (hg : Gl X "tuple" := by rfl) (hg2 : Gl X "range" := by rfl)
    (he : starEach [e, f] X.env = (false, eval e X.env) :: starEach [f] X.env := by rfl) (hf : starEach [f] X.env = (false, eval f X.env) :: starEach [] X.env := by rfl) (hpl : (backTo pos2 (starEach [f] X.env)).any (·.1) = false := by rfl) (he2 : starEach [.Call (.Name "range" p2) [e, f] [] pos2] X.env = (false, eval (.Call (.Name "range" p2) [e, f] [] pos2) X.env) :: starEach [] X.env := by rfl) :
    E X b S (.Call (.Name "tuple" p) [.Call (.Name "range" p2) [e, f] [] pos2] [] pos) (.val (dT ((List.range k).map fun (i : Nat) => m + (i : Int)))) S2 := by
  subst hn
  refine PE.w (pe_tupRg hc hg hm (prg_2 hg2 hm2 ha hb he hf hpl) he2) fun σ H Q ⟨G, st, q⟩ => ⟨G, st, fun v G2 H2 st2 x2 r => ?_⟩
  cases r
  refine ⟨G2, st2, fun w G3 H3 st3 x3 r3 => ?_⟩
  cases r3
  refine ⟨_, _, rfl, rfl, RgOk.of_le h0 (by omega) (by omega) (by omega), fun l hl => ?_⟩
  rw [rgV_from]
  exact q _ _ _ (st3.new hl) (x2.trans (x3.trans (st3.newEx hl))) (.tup (.inl (.inl upd_same)) (RpA.ofInts (K := X.K) _))
theorem E_tupRg {k : Nat} (hc : X.calm = true) (hm : X.mg "tuple" = none) (hm2 : X.mg "range" = none) (ha : E X b S e (.val (.int n)) S1) (hn : n = (k : Int)) (hk : k ≤ 100000) (hg : Gl X "tuple" := by rfl) (hg2 : Gl X "range" := by rfl)
    (he : starEach [e] X.env = (false, eval e X.env) :: starEach [] X.env := by rfl) (he2 : starEach [.Call (.Name "range" p2) [e] [] pos2] X.env = (false, eval (.Call (.Name "range" p2) [e] [] pos2) X.env) :: starEach [] X.env := by rfl) :
    E X b S (.Call (.Name "tuple" p) [.Call (.Name "range" p2) [e] [] pos2] [] pos) (.val (dT ((List.range k).map fun (i : Nat) => (i : Int)))) S1 := by
  subst hn
  refine PE.w (pe_tupRg hc hg hm (prg_1 hg2 hm2 ha he) he2) fun σ H Q ⟨G, st, q⟩ => ⟨G, st, fun v G2 H2 st2 x2 r => ?_⟩
  cases r
  refine ⟨_, rfl, RgOk.of_le (Int.le_refl _) (by omega) (by omega) (by omega), fun l hl => ?_⟩
  rw [rgV_nat]
  exact q _ _ _ (st2.new hl) (x2.trans (st2.newEx hl)) (.tup (.inl (.inl upd_same)) (RpA.ofInts (K := X.K) _))
end
end D
namespace D
open PySem PySem.Spec PyProof.Rows L2
section
variable {K : PySem.W.Frag} {tb : Tbs} {b : Bx tb} {S S1 : List Sl} {α : Type} {xs : List α} {enc : α → PyData} {vs js : List Nat} {g : TG}
def dcT1 (tb : Tbs) (K : PySem.W.Frag) (xs : List α) (F : α → List Sl → List Sl) (T0 : List Sl) (p : α → Bool) : TT := fun σ H Q => ∃ (b : Bx tb) (x : α), x ∈ xs ∧ tT K b (F x T0) (p x) (F x T0) σ H Q
def dcK1 (tb : Tbs) (K : PySem.W.Frag) (xs : List α) (F : α → List Sl → List Sl) (T0 : List Sl) (p : α → Bool) (f : α → Int) : TE := fun σ H Q => ∃ (b : Bx tb) (x : α), x ∈ xs ∧ p x = true ∧ tE K b (F x T0) (.val (.int (f x))) (F x T0) σ H Q
def dcV1 (tb : Tbs) (K : PySem.W.Frag) (xs : List α) (F : α → List Sl → List Sl) (T0 : List Sl) : TE := fun σ H Q => ∃ (b : Bx tb) (x : α), x ∈ xs ∧ tE K b (F x T0) (.val (.bool true)) (F x T0) σ H Q
theorem dc1_sem {F : α → List Sl → List Sl} {p : α → Bool} {f : α → Int} (gd : ∀ b : Bx tb, ∀ x ∈ xs, GD K b g (enc x) (F x) js) (hj : ∀ j ∈ js, j ∈ vs) (hw : ∀ x ∈ xs, wipeS (F x (wipeS S1 vs)) vs = wipeS S1 vs) (hz : xs.length < sizeLine) (no : NoOwn S1 vs)
    (σ : L2.St) (H : Hp) (Q : VK) (h : ∃ G, StOk K b G H σ S ∧ ∀ G2 H2 D0, StOk K b G2 H2 σ S1 → Ex G G2 → H2 D0 = some (.dK (vB (addAll [] ((xs.filter p).map f)))) → G2 D0 = none → b.B D0 = none → b.H0 D0 = none → (∀ i q, Owns σ S1 i q → q ≠ D0) → Q (.ref D0) H2) :
    tDc (tI K b S (xs.map enc) NoC S1) g (dcT1 tb K xs F (wipeS S1 vs) p) (dcK1 tb K xs F (wipeS S1 vs) p f) (dcV1 tb K xs F (wipeS S1 vs)) vs σ H Q := by
  obtain ⟨G, st, q⟩ := h
  refine ⟨G, st, fun J G2 H2 st2 x2 c2 w D0 hD => ?_⟩
  have hGD : G2 D0 = none := st2.sub.dom hD
  have hB : b.B D0 = none := st2.base.dom hD
  have hH0 : b.H0 D0 = none := st2.nw _ hD
  have hG0 : b.G0 D0 = none := st2.g0.dom hGD
  have hoD : ∀ i q, Owns σ S1 i q → q ≠ D0 := fun i q w => st2.ownNe hD w
  have nt : ∀ (kvs : List (Key × V)) ps, HO.dK kvs ≠ .tbl ps := fun _ _ z => by cases z
  let T0 := wipeS S1 vs
  let Pv : Nat → Hp → Prop := fun i H => ∃ G, StOk K (b.hold D0 (.dK (vB (addAll [] (((xs.take i).filter p).map f))))) G H (wipe σ vs) T0 ∧ Ex G2 G
  have hlen : (xs.map enc).length = xs.length := List.length_map ..
  refine ⟨fun i m H => m = xs.length - i ∧ i ≤ xs.length ∧ Pv i H, ⟨xs.length, by simp, Nat.zero_le _, ?_⟩, ?_⟩
  · exact ⟨G2, ((st2.poke hGD hB hoD).wipe vs).hold upd_same hGD fun i' q w => (st2.wipe vs).ownNe hD w, Ex.refl _⟩
  · rintro i m H3 ⟨rfl, hi, G3, st3, x3⟩
    by_cases hlt : i < xs.length
    · refine .inr ⟨w.goes _ i G3 H3 _ _ x3 st3 trivial (by rw [hlen]; exact hlt), Pv (i + 1), fun H' p' => ⟨xs.length - (i + 1), by omega, rfl, hlt, p'⟩, fun v H4 y => ?_⟩
      have hx : xs[i]? = some xs[i] := List.getElem?_eq_getElem hlt
      generalize hxx : xs[i] = x at hx
      have hxm : x ∈ xs := List.mem_of_getElem? hx
      have hout : ((xs.take (i + 1)).filter p).map f = ((xs.take i).filter p).map f ++ (if p x = true then [f x] else []) := by
        rw [take_succ' hx, List.filter_append, List.map_append]
        by_cases c : p x = true <;> simp [c]
      obtain ⟨G4, st4, x4, r4⟩ := w.yields _ i (enc x) G3 H3 _ _ v H4 x3 st3 trivial (by rw [List.getElem?_map, hx] <;> rfl) y
      refine gd _ x hxm G4 H4 _ _ v _ st4 r4 fun σ5 st5 w5 => ?_
      have hwp : wipe σ5 vs = wipe σ vs := (w5 vs hj).trans (wipe_wipe σ vs vs fun _ h => h)
      refine ⟨hwp, _, x, hxm, G4, st5, fun G6 H6 st6 x6 => ?_⟩
      cases hp : p x with
      | false =>
        simp only [Bool.false_eq_true, if_false]
        show Pv (i + 1) H6
        have hout' : ((xs.take (i + 1)).filter p).map f = ((xs.take i).filter p).map f := by rw [hout, hp]; simp
        refine ⟨G6, ?_, x3.trans (x4.trans x6)⟩
        rw [hout']
        have s10 := st6.wipe vs
        rw [hw x hxm, hwp] at s10
        exact s10
      | true =>
        simp only [if_true]
        rw [hp] at hout
        simp only [if_true] at hout
        refine ⟨_, x, hxm, hp, G6, st6, fun u G12 H12 st12 x12 r12 => ?_⟩
        refine ⟨_, x, hxm, G12, st12, fun u2 G14 H14 st14 x14 r14 => ?_⟩
        obtain ⟨st13, k1, k2, k3⟩ := st14.unhold hB hH0 hG0 (nt _)
        have eu : u = V.int (f x) := by cases r12; rfl
        have eu2 : u2 = V.bl true := by cases r14; rfl
        subst eu eu2
        have hn : (addAll [] (((xs.take i).filter p).map f)).length < sizeLine := by
          have h1 : ((xs.take i).filter p).length ≤ (xs.take i).length := List.length_filter_le _ _
          have h2 := addAll_len (((xs.take i).filter p).map f) []
          rw [List.length_map] at h2
          rw [List.length_take] at h1
          have h3 : ([] : List Int).length = 0 := rfl
          omega
        refine ⟨_, .inl (f x), rfl, k1, by rw [List.length_map]; exact hn, G14, ?_, x3.trans (x4.trans (x6.trans (x12.trans x14)))⟩
        rw [putK_true, ← addAll_snoc, hout]
        have s9 := (st13.poke (o := .dK (vB (addAll [] (((xs.take i).filter p).map f ++ [f x])))) k2 hB k3).hold upd_same k2 k3
        have s10 := s9.wipe vs
        rw [hw x hxm, hwp] at s10
        exact s10
    · have e : i = xs.length := by omega
      subst e
      refine .inl ⟨by have := w.stops _ G3 H3 _ _ x3 st3 trivial; rw [hlen] at this; exact this, ?_⟩
      rw [List.take_length] at st3
      obtain ⟨st4, k1, k2, k3⟩ := st3.unhold hB hH0 hG0 (nt _)
      have s5 := st2.back st4 x3 no
      rw [show back S1 T0 vs = S1 from back_self] at s5
      exact q _ _ D0 s5 (x2.trans x3) k1 k2 hB hH0 hoD
end
section
variable {X : Cx} {tb : Tbs} {b : Bx tb} {S S1 : List Sl} {tg it kx vx : Expr} {ifs : List Expr} {pos : Pos} {α : Type} {xs : List α} {enc : α → PyData} {js : List Nat} {g : TG} {scope : Scope} {own : List (Str × Nat)} {F : α → List Sl → List Sl}
/-- {f x: True for x in xs if p x} as a value -/
theorem E_dcB (p : α → Bool) (f : α → Int) (hc : X.calm = true) (hN : X.N.Nodup) (hi : IT X b S tg it (xs.map enc) NoC S1) (ok : BlkOk X.N X.env.scope scope own) (hg : ∀ s H C cl fp, PG (Blk X scope s H C cl fp) tg g)
    (gd : ∀ b : Bx tb, ∀ x ∈ xs, GD X.K b g (enc x) (F x) js) (hj : ∀ j ∈ js, j ∈ own.map (·.2))
    (ht : ∀ (b : Bx tb) (x : α), x ∈ xs → ∀ s H C cl fp, PTs (Blk X scope s H C cl fp) ifs (tT X.K b (F x (wipeS S1 (own.map (·.2)))) (p x) (F x (wipeS S1 (own.map (·.2))))))
    (hk : ∀ (b : Bx tb) (x : α), x ∈ xs → p x = true → ∀ s H C cl fp, E (Blk X scope s H C cl fp) b (F x (wipeS S1 (own.map (·.2)))) kx (.val (.int (f x))) (F x (wipeS S1 (own.map (·.2)))))
    (he : ∀ (b : Bx tb) (x : α), x ∈ xs → ∀ s H C cl fp, E (Blk X scope s H C cl fp) b (F x (wipeS S1 (own.map (·.2)))) vx (.val (.bool true)) (F x (wipeS S1 (own.map (·.2)))))
    (hw : ∀ x ∈ xs, wipeS (F x (wipeS S1 (own.map (·.2)))) (own.map (·.2)) = wipeS S1 (own.map (·.2))) (hz : xs.length < sizeLine) (no : noOwnB S1 (own.map (·.2)) = true) (hs : ∀ x, foldedSetIterable it X.env x = pure x := by intro _; rfl) :
    E X b S (.DictComp kx vx [⟨tg, it, ifs, 0⟩] scope pos) (.val (bD (addAll [] ((xs.filter p).map f)))) S1 := by
  have ht' : ∀ s H C cl fp, PTs (Blk X scope s H C cl fp) ifs (dcT1 tb X.K xs F (wipeS S1 (own.map (·.2))) p) := fun s H C cl fp => ⟨fun pins s1 σ H1 Q I ⟨b, x, hx, q⟩ => (ht b x hx s H C cl fp).run pins s1 σ H1 Q I q⟩
  have hk' : ∀ s H C cl fp, PE (Blk X scope s H C cl fp) kx (dcK1 tb X.K xs F (wipeS S1 (own.map (·.2))) p f) := fun s H C cl fp => ⟨fun pins s1 σ H1 Q I ⟨b, x, hx, hp, q⟩ => (hk b x hx hp s H C cl fp).run pins s1 σ H1 Q I q⟩
  have he' : ∀ s H C cl fp, PE (Blk X scope s H C cl fp) vx (dcV1 tb X.K xs F (wipeS S1 (own.map (·.2)))) := fun s H C cl fp => ⟨fun pins s1 σ H1 Q I ⟨b, x, hx, q⟩ => (he b x hx s H C cl fp).run pins s1 σ H1 Q I q⟩
  refine PE.w (pe_lock (pe_dc hc hN hi ok hg ht' hk' he' hs)) fun σ H Q ⟨G, st, q⟩ => ?_
  refine dc1_sem gd hj hw hz (NoOwn.of no) σ H _ ⟨G, st, fun G2 H2 D0 st2 x2 h1 h2 h3 h4 h5 => ⟨D0, _, rfl, h1, trivial, fun od => ?_⟩⟩
  have st3 := st2.poke (o := .frz od (.dK (vB (addAll [] ((xs.filter p).map f))))) h2 h3 h5
  have st4 := st3.know (o := .frz od (.dK (vB (addAll [] ((xs.filter p).map f))))) h2 upd_same h4 h5
  exact q _ _ _ st4 (x2.trans ((Ex.refl G2).new h2)) (.dic upd_same (RpK.ofTrue _))
end
end D

set_option Elab.async false
set_option linter.all false
set_option maxRecDepth 100000
set_option maxHeartbeats 1000000
set_option autoImplicit false
/-! loads -/
namespace Q
open PySem PySem.Spec PyProof.Rows L2 D
section
variable {P : Program} {w : World} {K : PySem.W.Frag} {tb : Tbs} {mg : Str → Option Value} {base : Heap} {f : Addr} {fd : FuncData}

end
end Q

set_option Elab.async false
set_option linter.all false
set_option maxRecDepth 100000
set_option maxHeartbeats 1000000
set_option autoImplicit false
/-! De1: what raises, over data. -/
namespace D
open PySem PySem.Spec PyProof.Rows L2
/-! ### judgements -/
section
variable {tb : Tbs} (K : PySem.W.Frag) (b : Bx tb) (S : List Sl) (cls : Value) (fo : Fo) (S' : List Sl)
/-- an error of the class cls leaves, at the slots S' -/
def tX : TE := fun σ H _ => ∃ G, StOk K b G H σ S ∧ ∀ d G2 H2, StOk K b G2 H2 σ S' → Ex G G2 → XcOk K G2 d fo → b.W cls d σ H2
def tXA : TA := fun σ H _ => ∃ G, StOk K b G H σ S ∧ ∀ d G2 H2, StOk K b G2 H2 σ S' → Ex G G2 → XcOk K G2 d fo → b.W cls d σ H2
def tXM : L2.St → Hp → XK → Prop := fun σ H Q => ∃ G, StOk K b G H σ S ∧ ∀ d G2 H2, StOk K b G2 H2 σ S' → Ex G G2 → XcOk K G2 d fo → Q cls d H2
end
abbrev EX {tb : Tbs} (X : Cx) (b : Bx tb) (S : List Sl) (e : Expr) (cls : Value) (fo : Fo) (S' : List Sl) : Prop := PE X e (tX X.K b S cls fo S')
abbrev AX {tb : Tbs} (X : Cx) (b : Bx tb) (S : List Sl) (es : List Expr) (cls : Value) (fo : Fo) (S' : List Sl) : Prop := PA X es (tXA X.K b S cls fo S')
abbrev MX {tb : Tbs} (X : Cx) (b : Bx tb) (S : List Sl) (e : Expr) (cls : Value) (fo : Fo) (S' : List Sl) : Prop := PMk X e (tXM X.K b S cls fo S')
theorem PA.ff {X : Cx} {es : List Expr} : PA X es (fun _ _ _ => False) := ⟨fun _ _ _ _ _ _ _ q => q.elim⟩
theorem PMk.w {X : Cx} {e : Expr} {t t' : L2.St → Hp → XK → Prop} (h : PMk X e t) (k : ∀ σ H Q, t' σ H Q → t σ H Q) : PMk X e t' := fun pins s σ H Q I q => h pins s σ H Q I (k σ H Q q)
section
variable {X : Cx} {tb : Tbs} {b : Bx tb} {S S1 S2 S3 : List Sl} {e f tg it : Expr} {es : List Expr} {r : Rs} {d da db : PyData} {ds xs ys : List PyData} {pos p p1 p2 : Pos} {st : Stmt} {rest body orelse : List Stmt} {P : Po} {c : Bool} {cls : Value} {fo : Fo}
/-! ### statements that an error leaves -/
theorem B_exprX (he : EX X b S e cls fo S1) (h : P.xr cls fo S1) (hs : swapsWith e none pos.line X.env = pure false := by rfl) : SS X b S (.Expr e pos :: rest) P :=
  ss_cons (Mid := fun _ => False) (PS.w (ps_expr he hs) fun D σ H ⟨G, st, _, _, _, _, q5⟩ => ⟨G, st, fun d G2 H2 st2 x xo => q5 G2 H2 σ S1 cls d fo st2 x xo h⟩) fun S' h => h.elim
theorem B_retX (he : EX X b S e cls fo S1) (h : P.xr cls fo S1) : SS X b S (.Return (some e) pos :: rest) P :=
  ss_cons (Mid := fun _ => False) (PS.w (ps_ret he) fun D σ H ⟨G, st, _, _, _, _, q5⟩ => ⟨G, st, fun d G2 H2 st2 x xo => q5 G2 H2 σ S1 cls d fo st2 x xo h⟩) fun S' h => h.elim
theorem B_setX (i : Nat) {x : Str} {px : Pos} (he : EX X b S e cls fo S1) (hN : X.N.Nodup) (hi : X.N[i]? = some x) (hx : Loc X.env.scope x) (h : P.xr cls fo S1) (hs : swapsWith e (some (.Name x px)) pos.line X.env = pure false := by rfl) (hf : X.fn x = true ∨ X.env.scope.names.lookup x = some .local := by first | exact .inl rfl | exact .inr rfl) :
    SS X b S (.Assign [.Name x px] e pos :: rest) P :=
  ss_cons (Mid := fun _ => False) (PS.w (ps_set hN hi hx he hs hf) fun D σ H ⟨G, st, _, _, _, _, q5⟩ => ⟨G, st, fun d G2 H2 st2 x xo => q5 G2 H2 σ S1 cls d fo st2 x xo h⟩) fun S' h => h.elim
/-- target = e, e raises -/
theorem B_asgX {g : TG} (he : EX X b S e cls fo S1) (hg : PG X tg g) (h : P.xr cls fo S1) (hs : swapsWithSole [tg] e pos.line X.env = pure false := by rfl) (hw : swappedStores [tg] e X.env = pure none := by rfl) (h1 : (assignEach [tg] X.env).map (·.2) = [assign tg X.env] := by rfl) :
    SS X b S (.Assign [tg] e pos :: rest) P :=
  ss_cons (Mid := fun _ => False) (PS.w (ps_asg he hg hs hw h1) fun D σ H ⟨G, st, _, _, _, _, q5⟩ => ⟨G, st, fun d G2 H2 st2 x xo => q5 G2 H2 σ S1 cls d fo st2 x xo h⟩) fun S' h => h.elim
/-- raise e -/
theorem B_raise (hc : X.calm = true) (tk : Takes X b.W) (hm : MX X b S e cls fo S1) (h : P.xr cls fo S1) : SS X b S (.Raise (some e) none pos :: rest) P :=
  ss_cons (Mid := fun _ => False) (PS.w (ps_raise hc tk hm) fun D σ H ⟨G, st, _, _, _, _, q5⟩ => ⟨G, st, fun d G2 H2 st2 x xo => q5 G2 H2 σ S1 cls d fo st2 x xo h⟩) fun S' h => h.elim
/-! ### expressions whose part raises -/
theorem A_x1 (he : EX X b S e cls fo S1) (hs : starEach (e :: es) X.env = (false, eval e X.env) :: starEach es X.env := by rfl) : AX X b S (e :: es) cls fo S1 := PA.w (pa_cons he PA.ff hs) fun σ H Q h => h
theorem A_x2 (he : E X b S e (.val d) S1) (hx : AX X b S1 es cls fo S2) (hs : starEach (e :: es) X.env = (false, eval e X.env) :: starEach es X.env := by rfl) : AX X b S (e :: es) cls fo S2 :=
  PA.w (pa_cons he hx hs) fun σ H Q ⟨G, st, q⟩ => ⟨G, st, fun v G2 H2 st2 x r => ⟨G2, st2, fun d G3 H3 st3 x3 xo => q d G3 H3 st3 (x.trans x3) xo⟩⟩
/-- f(.., e, ..), an argument raises -/
theorem EX_args {k : Nat} {x : Str} {ps : List Str} {sp : Sp} (F : ∃ (f : Addr) (fd : FuncData), FnOk X.prog X.w X.K X.mg X.base CX0 k f fd ps sp ∧ X.mg x = some (.ref f) ∧ PySem.W.keepIn X.K (.ref f) = true ∧ Binds X.K fd ps []) (hr : Room k X.A) (hg : Gl X x) (ha : AX X b S (e :: es) cls fo S1) (hdb : (x == ("__debug__" : Str)) = false := by decide) (he : starEach (e :: es) X.env = (false, eval e X.env) :: starEach es X.env := by rfl) (hpl : (backTo pos (starEach es X.env)).any (·.1) = false := by rfl) :
    EX X b S (.Call (.Name x p) (e :: es) [] pos) cls fo S1 := by
  obtain ⟨fa, fd, F, hm, hk, hb⟩ := F
  exact PE.w (pe_call F hr hg hm hk hb .nil pass0 ha hdb he hpl) fun σ H Q h => h
theorem EX_len (hm : X.mg "len" = none) (ha : EX X b S e cls fo S1) (hg : Gl X "len" := by rfl) (he : starEach [e] X.env = (false, eval e X.env) :: starEach [] X.env := by rfl) (hpl : (backTo pos (starEach [] X.env)).any (·.1) = false := by rfl) : EX X b S (.Call (.Name "len" p) [e] [] pos) cls fo S1 :=
  PE.w (pe_callB call_len hg hm bb_len (A_x1 ha he) (by decide) (by decide) he hpl) fun σ H Q h => h
theorem EX_ix (ha : EX X b S e cls fo S1) (hs : PlainIx f) : EX X b S (.Subscript e f pos) cls fo S1 :=
  PE.w (pe_ix (ix_tup) ha (PE.ff (e := f)) hs) fun σ H Q h => h
/-! ### the errors of the text -/
end
/-- an own class of errors over ValueError -/
abbrev veTl : List Value := [.type "ValueError", .type "Exception", .type "BaseException", .type "object"]
structure XcB (K : PySem.W.Frag) (C : Addr) : Prop where
  ex : ExcC K C
  ty : PySem.W.typeIn K (.ref C) = some (.type "type")
  kp : PySem.W.keepIn K (.ref C) = true
/-- .. without an __init__ -/
structure Xc0 (K : PySem.W.Frag) (mg : Str → Option Value) (x : Str) (C : Addr) : Prop where
  b : XcB K C
  own : PySem.W.excIn K C veTl "ValueError.__new__" = true
  g : mg x = some (.ref C)
/-- .. with one, that keeps what it is handed in the field f -/
structure Xc1 (K : PySem.W.Frag) (mg : Str → Option Value) (x f : Str) (C : Addr) : Prop where
  b : XcB K C
  ox : OexC K C
  noF : PySem.W.findIn K (.ref C) f = some none
  g : mg x = some (.ref C)
/-- its __init__ -/
def spIni (K : PySem.W.Frag) (C : Addr) (f : Str) : Sp := fun vs H Q _ => ∃ (a : Addr) (v : V), vs = [.ref a, v] ∧ H a = some (exo a C none) ∧ OexC K C ∧ PySem.W.findIn K (.ref C) f = some none ∧
  ∀ dx, H dx = none → dx ≠ a → Q .non (upd (upd H dx (exd dx [(f, v)])) a (exo a C (some dx)))
/-- the class at C has such an __init__ -/
def Xi (P : Program) (w : World) (K : PySem.W.Frag) (mg : Str → Option Value) (base : Heap) (C : Addr) (f : Str) : Prop := ∃ (fI : Addr) (fd : FuncData) (a : Str), PySem.W.findIn K (.ref C) "__init__" = some (some (.ref fI)) ∧ PySem.W.typeIn K (.ref fI) = some (.type "function") ∧ FnOk P w K mg base CX0 1 fI fd ["self", a] (spIni K C f) ∧ Binds K fd ["self", a] []
theorem ini_mk {P : Program} {w : World} {K : PySem.W.Frag} {mg : Str → Option Value} {base : Heap} {C fI : Addr} {fd : FuncData} {qual f a : Str} {st : Stmt} {p1 p2 p3 p4 : Pos} (F : Fun K "__init__" qual st fI fd) (S : FnScope ["self", a] ["self", a] (defScope st))
    (hb : defBody st = [.Assign [.Attribute (.Name "self" p1) f p2] (.Name a p3) p4]) (va : Vis (defScope st) a) (vs : Vis (defScope st) "self") (hd : (a == ("__debug__" : Str)) = false) (hcd : (a == ("__classdict__" : Str)) = false) : FnOk P w K mg base CX0 1 fI fd ["self", a] (spIni K C f) := by
  refine F.ok S (fun vs H Q E h => ?_) (fun cdv A outer s H vs' Q E hr h => ?_)
  · obtain ⟨a, v, rfl, _⟩ := h
    rfl
  · obtain ⟨e, v, rfl, h1, h2, h3, q⟩ := h
    rw [hb]
    refine ⟨_, pss_one (ps_ost (pe_var (i := 0) rfl vs (by decide) (by decide)) (pe_var (i := 1) rfl va hd hcd)), ?_⟩
    exact ⟨v, rfl, .ref e, rfl, e, C, rfl, h2, h3, .inl ⟨h1, fun dx hn ne => q dx hn ne⟩⟩
section
variable {X : Cx} {tb : Tbs} {b : Bx tb} {S S1 : List Sl} {e : Expr} {d : PyData} {p pos : Pos} {x f a : Str} {C fI : Addr}
/-- x() -/
theorem pmk_own0 (c : Xc0 X.K X.mg x C) (hg : Gl X x) (hdb : (x == ("__debug__" : Str)) = false := by decide) : PMk X (.Call (.Name x p) [] [] pos) (fun _ H Q => Q (.ref C) none H) := by
  intro pins s σ H Q I h
  refine wpAny_Call_Name_kw (ld_glob I hg c.g ?_ hdb)
  refine PySem.W.callWith_K0 I.kIn c.b.kp ?_
  show wpAny _ _ (call (.ref C) []) _ _ _
  obtain ⟨bm, N, nm, qn, bs, hdct, sn, sub, ab, col, dd, k0, k1, k2, k3, k5, mN, hC, hN, hni, T⟩ := exc_obj I.kIn c.own
  refine wpAny_call_exc_subT PySem.F.excBase_ValueError T hC hN hni (fun h' e hm => ?_) (by show 0 ≤ sizeLine; omega)
  exact mk_of I hm (raises_own c.b.ex.hs c.b.ty) h (I.hok.gone hm.new)
theorem MX_own0 (c : Xc0 X.K X.mg x C) (hg : Gl X x) (hdb : (x == ("__debug__" : Str)) = false := by decide) : MX X b S (.Call (.Name x p) [] [] pos) (.ref C) none S :=
  PMk.w (pmk_own0 c hg hdb) fun σ H Q ⟨G, st, q⟩ => q none G H st (Ex.refl G) rfl
/-- the heap behind the making -/
theorem made_heap {H : Hp} {a dx : Addr} {u0 u1 u2 u3 : HO} (ha : H a = none) (ne : dx ≠ a) : upd (del (upd (upd (upd H a u0) dx u1) a u2) a) dx u3 = upd H dx u3 := by
  funext c
  by_cases c1 : c = dx
  · subst c1; rw [upd_same, upd_same]
  · rw [upd_ne c1, upd_ne c1]
    by_cases c2 : c = a
    · subst c2; rw [del_same, ha]
    · rw [del_ne c2, upd_ne c2, upd_ne c1, upd_ne c2]
/-- x(e), kept in f -/
theorem MX_fld (c : Xc1 X.K X.mg x f C) (xi : Xi X.prog X.w X.K X.mg X.base C f)
    (hr : Room 2 X.A) (hg : Gl X x) (ha : E X b S e (.val d) S1) (hdb : (x == ("__debug__" : Str)) = false := by decide) (he : starEach [e] X.env = (false, eval e X.env) :: starEach [] X.env := by rfl) (hpl : (backTo pos (starEach [] X.env)).any (·.1) = false := by rfl) :
    MX X b S (.Call (.Name x p) [e] [] pos) (.ref C) (some (f, d)) S1 := by
  obtain ⟨fI, fd, a, iC, tI, F1, hb⟩ := xi
  refine PMk.w (pmk_oex c.ox iC tI F1 hr hb .nil pass0 hg c.g (A_cons ha A_nil he) hdb he hpl) fun σ H Q ⟨G, st, q⟩ => ⟨G, st, fun vs G2 H2 st2 x2 r => ?_⟩
  cases r with
  | cons rv rn =>
    cases rn
    rename_i v
    refine ⟨Nat.le_of_ble_eq_true rfl, fun a' hn => ⟨a', v, rfl, upd_same, c.ox, c.noF, fun dx hdx ne => ⟨rfl, dx, [(f, v)], upd_same, ?_, ?_, ?_⟩⟩⟩
    · rw [upd_ne ne, upd_same]
    · rw [upd_ne ne] at hdx; exact hdx
    · have hdx' : H2 dx = none := by rw [upd_ne ne] at hdx; exact hdx
      rw [made_heap hn ne]
      exact q (some dx) _ _ (st2.new (o := .xd [(f, v)]) hdx') (x2.trans (st2.newEx hdx')) ⟨dx, v, rfl, upd_same, rv.mono (st2.newEx hdx')⟩
end
/-! ### defs that raise -/
/-- a def that lets an error out: of the arguments ds the error named nm with its field, by pre -/
def spX (K : PySem.W.Frag) (mg : Str → Option Value) (tb : Tbs) (pre : List PyData → Str → Fo → Prop) : Sp := fun vs H _ E => ∃ G ds nm cls fo, pre ds nm fo ∧ mg nm = some cls ∧ (∀ q ∈ tb, TabX G H q) ∧ Ex G H ∧ RpA K G vs ds ∧
  ∀ d G' H', (∀ q ∈ tb, TabX G' H' q) → Ex G G' → New G G' H → Ex G' H' → Ex H H' → (∀ a, H' a = none → H a = none) → XcOk K G' d fo → E cls d H'
def FdX (P : Program) (w : World) (K : PySem.W.Frag) (mg : Str → Option Value) (base : Heap) (k : Nat) (x : Str) (ps : List Str) (sp : Sp) : Prop := ∃ (f : Addr) (fd : FuncData), FnOk P w K mg base (L2.CX P w) k f fd ps sp ∧ mg x = some (.ref f) ∧ PySem.W.keepIn K (.ref f) = true ∧ Binds K fd ps []
/-- what a body is to show: the error leaves -/
def poX (mg : Str → Option Value) (nm : Str) (fo : Fo) : Po := { nx := fun _ => False, rt := fun _ _ => False, xr := fun cls fo' _ => mg nm = some cls ∧ fo' = fo }
section
variable {X : Cx} {tb : Tbs} {b : Bx tb} {S S1 : List Sl} {e : Expr} {es : List Expr} {ds : List PyData} {pos p : Pos} {k : Nat} {x nm : Str} {ps : List Str} {cls : Value} {fo : Fo}
theorem EX_call {pre : List PyData → Str → Fo → Prop} (F : FdX X.prog X.w X.K X.mg X.base k x ps (spX X.K X.mg tb pre)) (tk : Takes X b.W) (hr : Room k X.A) (hg : Gl X x) (ha : A X b S (e :: es) ds S1) (hp : pre ds nm fo) (hc : X.mg nm = some cls) (hdb : (x == ("__debug__" : Str)) = false := by decide) (he : starEach (e :: es) X.env = (false, eval e X.env) :: starEach es X.env := by rfl) (hpl : (backTo pos (starEach es X.env)).any (·.1) = false := by rfl) :
    EX X b S (.Call (.Name x p) (e :: es) [] pos) cls fo S1 := by
  obtain ⟨fa, fd, F, hm, hk, hb⟩ := F
  refine PE.w (pe_callS (E := WE b.W) F hr hg hm hk hb (fun σ => passAt tk σ) ha hdb he hpl) fun σ H Q ⟨G, st, q⟩ => ⟨G, st, fun vs G2 H2 st2 x2 r2 => ?_⟩
  exact ⟨G2, ds, nm, cls, fo, hp, hc, st2.tabs, st2.sub, r2, fun d G' H' y0 y1 y2 y3 y4 y5 xo => q d G' H' (st2.called y0 y1 y2 y3 y4 y5) (x2.trans y1) xo⟩
end
section
variable {P : Program} {w : World} {K : PySem.W.Frag} {tb : Tbs} {mg : Str → Option Value} {base : Heap} {x qual : Str} {st : Stmt} {f : Addr} {fd : FuncData} {N ps : List Str} {k : Nat}
theorem fn_mkX {pre : List PyData → Str → Fo → Prop} (F : Fun K x qual st f fd) (S : FnScope N ps (defScope st))
    (len : ∀ ds nm fo, pre ds nm fo → ds.length = ps.length)
    (body : ∀ (cdv : Value) (A : Around) (outer : List Env) (s : Shared) (H : Hp) (E : XK) (b : Bx tb) (ds : List PyData) (nm : Str) (fo : Fo), Room k (A.deeper (envOfC qual (defScope st) s.heap.objs.size f cdv)) → Takes (cxOf (L2.CX P w) P w K mg base N qual (defScope st) f cdv A outer s H E) b.W →
      PassesOwn (model P w) (A.deeper (envOfC qual (defScope st) s.heap.objs.size f cdv)) (envOfC qual (defScope st) s.heap.objs.size f cdv) (cxOf (L2.CX P w) P w K mg base N qual (defScope st) f cdv A outer s H E).xe → pre ds nm fo →
      SS (cxOf (L2.CX P w) P w K mg base N qual (defScope st) f cdv A outer s H E) b (slots0 N (ds.map Sl.val)) (defBody st) (poX mg nm fo)) : FnOk P w K mg base (L2.CX P w) (k + 1) f fd ps (spX K mg tb pre) := by
  obtain ⟨oc, od, kV, doc, pm, an, cdv, ct, osl, rfl, lk, hcd⟩ := F.ex
  refine fn_of lk hcd S (fun vs H Q E h => ?_) (fun A outer s H vs Q E hr h => ?_)
  · obtain ⟨G, ds, nm, cls, fo, hp, _, _, _, r, _⟩ := h
    rw [r.length]; exact len ds nm fo hp
  · obtain ⟨G, ds, nm, cls, fo, hp, hcl, ht, x, r, q⟩ := h
    refine ⟨_, body cdv A outer s H E ⟨H, G, H, fun cls d _ H' => E cls d H'⟩ ds nm fo hr (takes_of rfl rfl rfl rfl) (passes_of rfl) hp, G, st_start x ht r, ?_, ?_, ?_, ?_, ?_⟩
    · exact fun _ _ _ _ _ _ z => z.elim
    · exact fun _ _ _ _ _ _ _ _ _ z => z.elim
    · exact fun _ _ _ _ _ _ z => z.elim
    · exact fun _ _ _ _ _ _ z => z.elim
    · intro G2 H2 σ2 S2 cls2 d fo2 st2 x2 xo hz
      obtain ⟨h1, h2⟩ : mg nm = some cls2 ∧ fo2 = fo := hz
      subst h2
      have h3 := hcl.symm.trans h1
      cases h3
      exact q d G2 H2 st2.tabs st2.g0 st2.gn st2.sub st2.base st2.nw xo
theorem fd_mkX {pre : List PyData → Str → Fo → Prop} (F : Fun K x qual st f fd) (S : FnScope N ps (defScope st)) (hm : mg x = some (.ref f))
    (hb : ∀ (kV doc pm : Value) (an : Option Addr) (cdv ct : Value) (us : List Value), us.length = ps.length → bindArgs (PySem.W.fnOf x qual (defArgs st) (defBody st) (defScope st) .none kV doc pm an cdv ct) ⟨us, []⟩ = pure (ps.zip us))
    (len : ∀ ds nm fo, pre ds nm fo → ds.length = ps.length)
    (body : ∀ (cdv : Value) (A : Around) (outer : List Env) (s : Shared) (H : Hp) (E : XK) (b : Bx tb) (ds : List PyData) (nm : Str) (fo : Fo), Room k (A.deeper (envOfC qual (defScope st) s.heap.objs.size f cdv)) → Takes (cxOf (L2.CX P w) P w K mg base N qual (defScope st) f cdv A outer s H E) b.W →
      PassesOwn (model P w) (A.deeper (envOfC qual (defScope st) s.heap.objs.size f cdv)) (envOfC qual (defScope st) s.heap.objs.size f cdv) (cxOf (L2.CX P w) P w K mg base N qual (defScope st) f cdv A outer s H E).xe → pre ds nm fo →
      SS (cxOf (L2.CX P w) P w K mg base N qual (defScope st) f cdv A outer s H E) b (slots0 N (ds.map Sl.val)) (defBody st) (poX mg nm fo)) : FdX P w K mg base (k + 1) x ps (spX K mg tb pre) :=
  ⟨f, fd, fn_mkX F S len body, hm, F.kp, F.binds hb⟩
end
end D

set_option Elab.async false
set_option linter.all false
set_option maxRecDepth 100000
set_option maxHeartbeats 1000000
set_option autoImplicit false
/-! De2: try .. except, over data; what is asked of a caught error. -/
namespace D
open PySem PySem.Spec PyProof.Rows L2
section
variable {K : PySem.W.Frag} {tb : Tbs} {b : Bx tb} {W : WX} {G H : Hp} {σ : L2.St} {S : List Sl} {p : Addr} {l : Bool}
abbrev Bx.re {tb : Tbs} (b : Bx tb) (W : WX) : Bx tb := ⟨b.B, b.G0, b.H0, W⟩
theorem Apart.re (h : Apart b G p l) (W : WX) : Apart (b.re W) G p l := ⟨h.hb, h.hg, h.h0, h.h1⟩
theorem SlOk.re {o : Option V} {s : Sl} (h : SlOk K b G H o s) (W : WX) : SlOk K (b.re W) G H o s := by
  cases s with
  | emp => trivial
  | exc a d fo => exact h
  | val d => exact h
  | own l xs => obtain ⟨p, e, a, r⟩ := h; exact ⟨p, e, a.re W, r⟩
  | dic xs => obtain ⟨p, e, a, r⟩ := h; exact ⟨p, e, a.re W, r⟩
  | ins l C fs => obtain ⟨p, e, a, r⟩ := h; exact ⟨p, e, a.re W, r⟩
theorem StOk.re (h : StOk K b G H σ S) (W : WX) : StOk K (b.re W) G H σ S where
  sub := h.sub
  base := h.base
  g0 := h.g0
  nw := h.nw
  gn := h.gn
  tabs := h.tabs
  len := h.len
  at_ := fun i s e => let ⟨o, h1, h2⟩ := h.at_ i s e; ⟨o, h1, h2.re W⟩
  sep := h.sep
theorem StOk.unre (h : StOk K (b.re W) G H σ S) : StOk K b G H σ S := h.re b.W
end
section
variable {X : Cx} {tb : Tbs} {b : Bx tb} {S : List Sl} {x n : Str} {c : Value} {body suite : List Stmt} {b₀ : Stmt} {np pos pos' : Pos} {P : Po}
/-- try: body except x: suite; R: the errors that leave the body, each of them the clause's -/
theorem B_try {Mid : List Sl → Prop} (R : Value → Fo → List Sl → Prop) {rest : List Stmt} (hs : X.stack = X.env :: X.outer) (hf : X.env.frame = some X.env.locals) (hc : Names X x c)
    (hb : ∀ (W : WX) (pn : List (Addr × Obj)) (xe : Value → Shared → Prop), Takes (X.tr pn xe) W → PassesOwn (model X.prog X.w) X.A X.env xe → SS (X.tr pn xe) (b.re W) S body { P with nx := Mid, xr := R })
    (hx : ∀ cls fo S', R cls fo S' → PySem.W.exmOne X.K cls c = some true)
    (hsu : ∀ (a : Addr) (oe : Obj) (cls : Value) (d : Option Addr) (fo : Fo) (pn : List (Addr × Obj)) (S' : List Sl), R cls fo S' → Zc cls d oe → (∃ vs, oe.data = .fields vs) → SS (X.suite a ((a, oe) :: pn)) b S' (b₀ :: suite) { P with nx := Mid })
    (k : ∀ S', Mid S' → SS X b S' rest P) :
    SS X b S (.Try body [.ExceptHandler (some (.Name x np)) none (b₀ :: suite) pos'] [] [] pos :: rest) P := by
  refine ss_cons (Mid := Mid) (PS.w (ps_try_only hs hf hc LamX.takes0 (tb := fun W => tS X.K (b.re W) S { P with nx := Mid, xr := R }) (ts := fun a cls d D σ H => ∃ fo S', R cls fo S' ∧ tS X.K b S' { P with nx := Mid } D σ H) (fun W pn xe tk hp => hb W pn xe tk hp)
    (fun a oe cls d pn hz hv => ⟨fun pins s σ H D I ⟨fo, S', hr, q⟩ => (hsu a oe cls d fo pn S' hr hz hv).run pins s σ H D I q⟩)) fun D σ H ⟨G, st, q1, q2, q3, q4, q5⟩ => ?_) k
  refine ⟨G, st.re _, fun G2 H2 σ2 S2 st2 x h => q1 G2 H2 σ2 S2 st2.unre x h, fun v G2 H2 σ2 S2 d st2 x r h => q2 v G2 H2 σ2 S2 d st2.unre x r h, fun G2 H2 σ2 S2 st2 x h => q3 G2 H2 σ2 S2 st2.unre x h, fun G2 H2 σ2 S2 st2 x h => q4 G2 H2 σ2 S2 st2.unre x h, fun G2 H2 σ2 S2 cls d fo st2 x xo hr => ?_⟩
  refine ⟨true, hx cls fo S2 hr, fun _ a ha => ⟨fo, S2, hr, G2, st2.unre, ?_, ?_, ?_, ?_, ?_⟩, fun z => by cases z⟩
  · exact fun G3 H3 σ3 S3 st3 x3 h => q1 G3 H3 σ3 S3 st3 (x.trans x3) h
  · exact fun v G3 H3 σ3 S3 d st3 x3 r h => q2 v G3 H3 σ3 S3 d st3 (x.trans x3) r h
  · exact fun G3 H3 σ3 S3 st3 x3 h => q3 G3 H3 σ3 S3 st3 (x.trans x3) h
  · exact fun G3 H3 σ3 S3 st3 x3 h => q4 G3 H3 σ3 S3 st3 (x.trans x3) h
  · exact fun G3 H3 σ3 S3 cls d fo st3 x3 r h => q5 G3 H3 σ3 S3 cls d fo st3 (x.trans x3) r h
/-- try: body except x as n: suite -/
theorem B_tryAs (i : Nat) {Mid : List Sl → Prop} (R : Value → Fo → List Sl → Prop) {rest : List Stmt} (hs : X.stack = X.env :: X.outer) (hf : X.env.frame = some X.env.locals) (hN : X.N.Nodup) (hi : X.N[i]? = some n) (hln : X.env.kindOf n = some .local) (hc : Names X x c)
    (hb : ∀ (W : WX) (pn : List (Addr × Obj)) (xe : Value → Shared → Prop), Takes (X.tr pn xe) W → PassesOwn (model X.prog X.w) X.A X.env xe → SS (X.tr pn xe) (b.re W) S body { P with nx := Mid, xr := R })
    (hx : ∀ cls fo S', R cls fo S' → PySem.W.exmOne X.K cls c = some true)
    (hsu : ∀ (a : Addr) (oe : Obj) (cls : Value) (d : Option Addr) (fo : Fo) (pn : List (Addr × Obj)) (S' : List Sl), R cls fo S' → Zc cls d oe → (∃ vs, oe.data = .fields vs) →
      SS (X.suite a ((a, oe) :: pn)) b (S'.set i (.exc a d fo)) (b₀ :: suite) { P with nx := fun S2 => Mid (S2.set i .emp), bk := fun S2 => P.bk (S2.set i .emp), ct := fun S2 => P.ct (S2.set i .emp) })
    (k : ∀ S', Mid S' → SS X b S' rest P) :
    SS X b S (.Try body [.ExceptHandler (some (.Name x np)) (some n) (b₀ :: suite) pos'] [] [] pos :: rest) P := by
  refine ss_cons (Mid := Mid) (PS.w (ps_try_as (i := i) hs hf hN hi hln hc LamX.takes0 (tb := fun W => tS X.K (b.re W) S { P with nx := Mid, xr := R })
    (ts := fun a cls d D σ H => ∃ fo S', R cls fo S' ∧ tS X.K b (S'.set i (.exc a d fo)) { P with nx := fun S2 => Mid (S2.set i .emp), bk := fun S2 => P.bk (S2.set i .emp), ct := fun S2 => P.ct (S2.set i .emp) } D σ H) (fun W pn xe tk hp => hb W pn xe tk hp)
    (fun a oe cls d pn hz hv => ⟨fun pins s σ H D I ⟨fo, S', hr, q⟩ => (hsu a oe cls d fo pn S' hr hz hv).run pins s σ H D I q⟩)) fun D σ H ⟨G, st, q1, q2, q3, q4, q5⟩ => ?_) k
  refine ⟨G, st.re _, fun G2 H2 σ2 S2 st2 x h => q1 G2 H2 σ2 S2 st2.unre x h, fun v G2 H2 σ2 S2 d st2 x r h => q2 v G2 H2 σ2 S2 d st2.unre x r h, fun G2 H2 σ2 S2 st2 x h => q3 G2 H2 σ2 S2 st2.unre x h, fun G2 H2 σ2 S2 st2 x h => q4 G2 H2 σ2 S2 st2.unre x h, fun G2 H2 σ2 S2 cls d fo st2 x xo hr => ?_⟩
  refine ⟨true, hx cls fo S2 hr, fun _ a ha => ⟨fo, S2, hr, G2, st2.unre.put (i := i) (s := .exc a d fo) ⟨rfl, xo⟩ (fun z => by cases z), ?_, ?_, ?_, ?_, ?_⟩, fun z => by cases z⟩
  · exact fun G3 H3 σ3 S3 st3 x3 h => q1 G3 H3 _ _ st3.putEmp (x.trans x3) h
  · exact fun v G3 H3 σ3 S3 d st3 x3 r h => q2 v G3 H3 σ3 S3 d st3 (x.trans x3) r h
  · exact fun G3 H3 σ3 S3 st3 x3 h => q3 G3 H3 _ _ st3.putEmp (x.trans x3) h
  · exact fun G3 H3 σ3 S3 st3 x3 h => q4 G3 H3 _ _ st3.putEmp (x.trans x3) h
  · exact fun G3 H3 σ3 S3 cls d fo st3 x3 r h => q5 G3 H3 σ3 S3 cls d fo st3 (x.trans x3) r h
end
/-! ### what is asked of a caught error -/
section
variable {X : Cx} {tb : Tbs} {b : Bx tb} {S : List Sl} {a Cd : Addr} {oe : Obj} {d : Option Addr} {fo : Fo} {pn : List (Addr × Obj)} {pos p p1 p2 : Pos} {x t f : Str} {z : PyData}
/-- isinstance(e, c) -/
def rIsD (K : PySem.W.Frag) (Cd a : Addr) (d : Option Addr) : List V → Hp → VK → Prop := fun xs H Q => ∃ (c : V) (cv : Value) (k : Bool), xs = [.ref a, c] ∧ (∀ u, RelV c u → u = cv) ∧ (d = none ∨ ∃ dd fs, d = some dd ∧ H dd = some (.xd fs)) ∧ PySem.W.kitOne K (.ref Cd) cv = some k ∧ Q (.bl k) H
theorem call_isD (C : ExcC X.K Cd) (hz : Zc (.ref Cd) d oe) (hv : ∃ vs, oe.data = .fields vs) : CallR (X.suite a ((a, oe) :: pn)) (.builtin "isinstance") (rIsD X.K Cd a d) := by
  intro pins s σ H xs us Q I r h
  obtain ⟨c, cv, k, rfl, hcv, hd, e, q⟩ := h
  cases r with
  | cons rx rr =>
    cases rr with
    | cons rt rr =>
      cases rr
      cases rx
      have ec := hcv _ rt
      subst ec
      obtain ⟨hget, _⟩ := I.pin (a, oe) (List.mem_append.mpr (.inl List.mem_cons_self))
      obtain ⟨vs, hv⟩ := hv
      have no : PySem.W.notCls oe = true := by unfold PySem.W.notCls; rw [hv] <;> rfl
      have hcl : (PySem.W.clsIn X.K Cd).isSome = true := by
        obtain ⟨cd, hc, _⟩ := PySem.W.any_some C.hd
        rw [hc]; rfl
      rcases hd with hd | ⟨dd, fs, hd, hh⟩
      · have J : PySem.W.InstAt s.heap a oe Cd none := ⟨hget, hz.1, no, by rw [hz.2, hd]; trivial⟩
        exact PySem.W.kia_one (PySem.W.kitx_exc hcl C.hg C.hk C.hs C.ha C.hn C.ht C.hm) I.kIn J e (fun z => nomatch z) fun tk => ⟨.bl k, H, I.kept (t' := tk) fun _ _ z => z, rfl, q⟩
      · have hx : ObjOk X.prog X.w H s.heap dd (.xd fs) := I.hok dd _ hh
        obtain ⟨mA, hns, _⟩ := hx
        obtain ⟨od, ho, _⟩ := lookIn_ns hns
        have J : PySem.W.InstAt s.heap a oe Cd (some od) := ⟨hget, hz.1, no, by rw [hz.2, hd]; exact ho⟩
        exact PySem.W.kia_one (PySem.W.kitx_exc hcl C.hg C.hk C.hs C.ha C.hn C.ht C.hm) I.kIn J e (fun z => nomatch z) fun tk => ⟨.bl k, H, I.kept (t' := tk) fun _ _ z => z, rfl, q⟩
theorem StOk.slotX {K : PySem.W.Frag} {G H : Hp} {σ : L2.St} (h : StOk K b G H σ S) {i : Nat} (e : S[i]? = some (.exc a d fo)) : σ[i]? = some (some (.ref a)) ∧ XcOk K G d fo := by
  obtain ⟨o, h1, h2, h3⟩ := h.at_ i _ e
  exact ⟨by rw [h1, h2], h3⟩
theorem XcOk.dict {K : PySem.W.Frag} {G H : Hp} {d : Option Addr} {fo : Fo} (x : Ex G H) (h : XcOk K G d fo) : d = none ∨ ∃ dd fs, d = some dd ∧ H dd = some (.xd fs) := by
  cases fo with
  | none => exact .inl h
  | some q => obtain ⟨dd, v, e1, e2, _⟩ := h; exact .inr ⟨dd, _, e1, x.at_ e2⟩
/-- isinstance(e, t), e caught, t an own class -/
theorem E_isX (i : Nat) {C2 : Addr} {k : Bool} (C : ExcC X.K Cd) (hz : Zc (.ref Cd) d oe) (hv : ∃ vs, oe.data = .fields vs) (hs : S[i]? = some (.exc a d fo)) (hx : PE (X.suite a ((a, oe) :: pn)) (.Name x p1) (tVar i)) (hm : X.mg "isinstance" = none) (hmt : X.mg t = some (.ref C2)) (hk : PySem.W.kitOne X.K (.ref Cd) (.ref C2) = some k)
    (hgt : Gl X t := by rfl) (hg : Gl X "isinstance" := by rfl) (hd : (t == ("__debug__" : Str)) = false := by decide) :
    E (X.suite a ((a, oe) :: pn)) b S (.Call (.Name "isinstance" p) [.Name x p1, .Name t p2] [] pos) (.val (.bool k)) S :=
  PE.w (pe_callB (X := X.suite a ((a, oe) :: pn)) (call_isD C hz hv) hg hm bb_isinstance (pa_cons hx (pa_cons (pe_glob (X := X.suite a ((a, oe) :: pn)) (v := .ref C2) hgt hmt rfl hd) pa_nil rfl) rfl) (by decide) (by decide) rfl rfl) fun σ H Q ⟨G, st, q⟩ => by
    obtain ⟨h1, h2⟩ := st.slotX hs
    exact ⟨_, h1, .ref C2, .ref C2, k, rfl, fun u h => h, h2.dict st.sub, hk, q _ G H st (Ex.refl G) (.bl _)⟩
/-- isinstance(e, T), T a built-in class -/
theorem E_isXb (i : Nat) {T : String} {k : Bool} (C : ExcC X.K Cd) (hz : Zc (.ref Cd) d oe) (hv : ∃ vs, oe.data = .fields vs) (hs : S[i]? = some (.exc a d fo)) (hx : PE (X.suite a ((a, oe) :: pn)) (.Name x p1) (tVar i)) (hm : X.mg "isinstance" = none) (hmt : X.mg t = none) (hb : bootBuiltins t = some (.type T)) (hk : PySem.W.kitOne X.K (.ref Cd) (.type T) = some k)
    (hgt : Gl X t := by rfl) (hg : Gl X "isinstance" := by rfl) (hn : t ≠ "__name__" := by decide) (hd : (t == ("__debug__" : Str)) = false := by decide) :
    E (X.suite a ((a, oe) :: pn)) b S (.Call (.Name "isinstance" p) [.Name x p1, .Name t p2] [] pos) (.val (.bool k)) S :=
  PE.w (pe_callB (X := X.suite a ((a, oe) :: pn)) (call_isD C hz hv) hg hm bb_isinstance (pa_cons hx (pa_cons (pe_bltn (X := X.suite a ((a, oe) :: pn)) (v := .ty T) hgt hmt hb rfl hn hd) pa_nil rfl) rfl) (by decide) (by decide) rfl rfl) fun σ H Q ⟨G, st, q⟩ => by
    obtain ⟨h1, h2⟩ := st.slotX hs
    exact ⟨_, h1, .ty T, .type T, k, rfl, fun u h => h, h2.dict st.sub, hk, q _ G H st (Ex.refl G) (.bl _)⟩
/-- e.f, e caught -/
theorem E_fieldX (i : Nat) (T : XfC X.K Cd) (hno : PySem.W.findIn X.K (.ref Cd) f = some none) (hz : Zc (.ref Cd) d oe) (hv : ∃ vs, oe.data = .fields vs) (hs : S[i]? = some (.exc a d (some (f, z)))) (hx : PE (X.suite a ((a, oe) :: pn)) (.Name x p1) (tVar i))
    (hb : attributeBase (.Name x p1) f X.env (eval (.Name x p1) X.env) = eval (.Name x p1) X.env := by rfl) :
    E (X.suite a ((a, oe) :: pn)) b S (.Attribute (.Name x p1) f pos) (.val z) S :=
  PE.w (pe_xf T hno hz hv hx hb) fun σ H Q ⟨G, st, q⟩ => by
    obtain ⟨h1, dd, v, e1, e2, r⟩ := st.slotX hs
    exact ⟨_, h1, rfl, rfl, dd, _, v, e1, st.sub.at_ e2, by simp [List.lookup], q v G H st (Ex.refl G) r⟩
end
end D

set_option Elab.async false
set_option linter.all false
set_option maxRecDepth 100000
set_option maxHeartbeats 1000000
set_option autoImplicit false
/-! Do1: instances of own classes, over data. -/
namespace D
open PySem PySem.Spec PyProof.Rows L2
/-! ### attributes -/
def putD (f : Str) (d : PyData) : List (Str × PyData) → List (Str × PyData)
  | [] => [(f, d)]
  | (g, x) :: r => if g = f then (g, d) :: r else (g, x) :: putD f d r
section
variable {K : PySem.W.Frag} {G H : Hp}
theorem RpF.length {vs : List (Str × V)} {ds : List (Str × PyData)} (h : RpF K G vs ds) : vs.length = ds.length := by
  induction h with
  | nil => rfl
  | cons _ _ ih => exact congrArg (· + 1) ih
theorem RpF.put {f : Str} {v : V} {d : PyData} (r : Rp K G v d) : ∀ {vs : List (Str × V)} {ds : List (Str × PyData)}, RpF K G vs ds → RpF K G (putF f v vs) (putD f d ds) := by
  intro vs ds h
  induction h with
  | nil => exact .cons r .nil
  | @cons g y vs x ds q t ih =>
    show RpF K G (if g = f then (g, v) :: vs else (g, y) :: putF f v vs) (if g = f then (g, d) :: ds else (g, x) :: putD f d ds)
    by_cases c : g = f
    · rw [if_pos c, if_pos c]; exact .cons r t
    · rw [if_neg c, if_neg c]; exact .cons q ih
theorem RpF.look {f : Str} {d : PyData} : ∀ {vs : List (Str × V)} {ds : List (Str × PyData)}, RpF K G vs ds → ds.lookup f = some d → ∃ v, vs.lookup f = some v ∧ Rp K G v d := by
  intro vs ds h
  induction h with
  | nil => intro e; cases e
  | @cons g y vs x ds q t ih =>
    intro e
    rw [List.lookup_cons] at e ⊢
    cases c : f == g with
    | true => rw [c] at e; cases e; exact ⟨y, rfl, q⟩
    | false => rw [c] at e; exact ih e
theorem RpF.none {f : Str} : ∀ {vs : List (Str × V)} {ds : List (Str × PyData)}, RpF K G vs ds → ds.lookup f = .none → vs.lookup f = .none := by
  intro vs ds h
  induction h with
  | nil => intro _; rfl
  | @cons g y vs x ds q t ih =>
    intro e
    rw [List.lookup_cons] at e ⊢
    cases c : f == g with
    | true => rw [c] at e; cases e
    | false => rw [c] at e; exact ih e
end
/-! ### promises of methods -/
/-- a method that hands back data: of the attributes fs and the arguments ds the data d, the attributes fs' behind -/
def spM (K : PySem.W.Frag) (tb : Tbs) (C : Addr) (pre : List (Str × PyData) → List PyData → PyData → List (Str × PyData) → Prop) : Sp := fun vs H Q _ => ∃ G p dx rs ws fs ds d fs', pre fs ds d fs' ∧ (∀ q ∈ tb, TabX G H q) ∧ vs = .ref p :: ws ∧ Ex G H ∧ H p = some (.ins C dx rs) ∧ RpF K G rs fs ∧ G p = none ∧ RpA K G ws ds ∧
  ∀ v G' H' dx' rs', (∀ q ∈ tb, TabX G' H' q) → Ex G G' → New G G' H → Ex G' H' → (∀ a o, a ≠ p → H a = some o → Kp o (H' a)) → (∀ a, H' a = none → H a = none) → G' p = none → H' p = some (.ins C dx' rs') → RpF K G' rs' fs' → Rp K G' v d → Q v H'
/-- a method that raises, and changes nothing -/
def spMX (K : PySem.W.Frag) (mg : Str → Option Value) (tb : Tbs) (C : Addr) (pre : List (Str × PyData) → List PyData → Str → Fo → Prop) : Sp := fun vs H _ E => ∃ G p dx rs ws fs ds nm cls fo, pre fs ds nm fo ∧ mg nm = some cls ∧ (∀ q ∈ tb, TabX G H q) ∧ vs = .ref p :: ws ∧ Ex G H ∧ H p = some (.ins C dx rs) ∧ RpF K G rs fs ∧ G p = none ∧ RpA K G ws ds ∧
  ∀ d G' H' dx' rs', (∀ q ∈ tb, TabX G' H' q) → Ex G G' → New G G' H → Ex G' H' → (∀ a o, a ≠ p → H a = some o → Kp o (H' a)) → (∀ a, H' a = none → H a = none) → G' p = none → H' p = some (.ins C dx' rs') → RpF K G' rs' fs → XcOk K G' d fo → E cls d H'
/-- the class at C has the method m, at level k -/
def Md (P : Program) (w : World) (K : PySem.W.Frag) (mg : Str → Option Value) (base : Heap) (CX : CXT) (k : Nat) (C : Addr) (m : Str) (ps : List Str) (sp : Sp) : Prop := ∃ (f : Addr) (fd : FuncData), FnOk P w K mg base CX k f fd ps sp ∧ Meth K C m f ∧ Binds K fd ps []
/-- .. its maker -/
def Mi (P : Program) (w : World) (K : PySem.W.Frag) (mg : Str → Option Value) (base : Heap) (CX : CXT) (k : Nat) (C : Addr) (ps : List Str) (sp : Sp) : Prop := ∃ (f : Addr) (fd : FuncData), FnOk P w K mg base CX k f fd ps sp ∧ Mk K C f ∧ Binds K fd ps []
/-- .. a property -/
def Mp (P : Program) (w : World) (K : PySem.W.Frag) (mg : Str → Option Value) (base : Heap) (k : Nat) (C : Addr) (m : Str) (sp : Sp) : Prop := ∃ (p f : Addr) (fd : FuncData), FnOk P w K mg base CX0 k f fd ["self"] sp ∧ PropOf K C m p f ∧ Binds K fd ["self"] []
section
variable {K : PySem.W.Frag} {tb : Tbs} {b : Bx tb} {G H G' H' : Hp} {σ : L2.St} {S : List Sl} {p : Addr} {C dx : Addr}
theorem StOk.slotI (h : StOk K b G H σ S) {i : Nat} {l : Bool} {fs : List (Str × PyData)} (e : S[i]? = some (.ins l C fs)) : ∃ p dx vs, σ[i]? = some (some (.ref p)) ∧ Apart b G p l ∧ H p = some (.ins C dx vs) ∧ RpF K G vs fs := by
  obtain ⟨o, h1, p, h2, h3, dx, vs, h5, r⟩ := h.at_ i _ e
  exact ⟨p, dx, vs, by rw [h1, h2], h3, h5, r⟩
/-- behind a call that wrote at p, the own cell of slot i -/
theorem StOk.calledAt (st : StOk K b G H σ S) {i : Nat} {s s' : Sl} (e1 : σ[i]? = some (some (.ref p))) (e2 : S[i]? = some s) (hs : s.owned = true) (hs' : s'.owned = true) (hl : s'.loc = s.loc)
    (x0 : ∀ q ∈ tb, TabX G' H' q) (x1 : Ex G G') (nw : New G G' H) (x2 : Ex G' H') (x3 : ∀ a o, a ≠ p → H a = some o → Kp o (H' a)) (x4 : ∀ a, H' a = none → H a = none) (gp : G' p = none) (n : OwnAt K G' H' p s') : StOk K b G' H' σ (S.set i s') := by
  have w : Owns σ S i p := ⟨⟨s, e2, hs⟩, e1⟩
  obtain ⟨ap, hh⟩ := st.owns e2 hs e1
  have ti : ∀ {A : Hp} {a : Addr} {o : HO}, A a = some o → A p ≠ none → a ≠ p → True := fun _ _ _ => trivial
  refine { sub := x2, base := fun a o h => ?_, g0 := st.g0.trans x1, nw := fun a h => st.nw a (x4 a h), gn := fun a h => ?_, tabs := x0, len := by rw [List.length_set]; exact st.len, at_ := ?_, sep := ?_ }
  · have hne : a ≠ p := fun z => by rw [z, ap.hb] at h; cases h
    have h1 := st.base a o h
    cases o with
    | tbl ps =>
      obtain ⟨p1, q1, t1⟩ := h1
      obtain ⟨p2, q2, t2⟩ := x3 a _ hne q1
      exact ⟨p2, q2, fun z => t2 (t1 z)⟩
    | _ => exact x3 a _ hne h1
  · rcases nw a h with z | z
    · exact st.gn a z
    · exact .inr (st.nw a z)
  · intro j t et
    rcases get_set et with ⟨h1, h2, h3⟩ | ⟨h1, h2⟩
    · subst h1; subst h2
      exact ⟨_, e1, SlOk.of_own hs' rfl (by rw [hl]; exact ⟨ap.hb, gp, ap.h0, ap.h1⟩) n⟩
    · obtain ⟨v, k1, k2⟩ := st.at_ j t h2
      refine ⟨v, k1, ?_⟩
      by_cases ht : t.owned = true
      · obtain ⟨q, e3, h3, h5⟩ := k2.own ht
        have w2 : Owns σ S j q := ⟨⟨t, h2, ht⟩, by rw [k1, e3]⟩
        have hq : q ≠ p := fun z => by subst z; exact h1 (st.sep j i q w2 w)
        have hH : H' q = H q := by
          cases eo : H q with
          | none => exact absurd eo h5.some
          | some o =>
            have hk := x3 q o hq eo
            refine hk.is fun ps z => ?_
            subst z
            cases t with
            | own l xs => obtain ⟨_, z, _⟩ := h5; rw [eo] at z; cases z
            | dic xs => obtain ⟨_, z, _⟩ := h5; rw [eo] at z; cases z
            | ins l C fs => obtain ⟨_, _, z, _⟩ := h5; rw [eo] at z; cases z
            | _ => cases ht
        have hG : G' q = none := by
          cases eg : G' q with
          | none => rfl
          | some u =>
            rcases nw q (by rw [eg]; intro z; cases z) with z | z
            · exact absurd h3.hg z
            · exact absurd z h5.some
        exact SlOk.of_own ht e3 ⟨h3.hb, hG, h3.h0, h3.h1⟩ (h5.mono x1 hH)
      · cases t with
        | emp => trivial
        | exc a d fo => exact ⟨k2.1, k2.2.mono x1⟩
        | val d => obtain ⟨v, e, r⟩ := k2; exact ⟨v, e, r.mono x1⟩
        | own l xs => exact absurd rfl ht
        | dic xs => exact absurd rfl ht
        | ins l C fs => exact absurd rfl ht
  · intro j k q w1 w2
    have back : ∀ j, Owns σ (S.set i s') j q → Owns σ S j q := fun j w => by
      obtain ⟨⟨t, e1', ht⟩, e3⟩ := w
      rcases get_set e1' with ⟨h1, h2, h3⟩ | ⟨h1, h2⟩
      · subst h1; exact ⟨⟨s, e2, hs⟩, e3⟩
      · exact ⟨⟨t, h2, ht⟩, e3⟩
    exact st.sep j k q (back j w1) (back k w2)
end
section
variable {X : Cx} {tb : Tbs} {b : Bx tb} {S S1 S2 : List Sl} {e : Expr} {es : List Expr} {d : PyData} {ds : List PyData} {pos p pa po : Pos} {k : Nat} {x m f : Str} {ps : List Str} {C : Addr} {fs fs' : List (Str × PyData)} {l : Bool} {cls : Value} {fo : Fo} {nm : Str} {rest : List Stmt} {P : Po}
/-- o.f, an attribute -/
theorem E_fld (i : Nat) (c : Cls X.K C) (n : NoAttr X.K C f) (hs : S[i]? = some (.ins l C fs)) (hx : PE X (.Name x po) (tVar i)) (hf : fs.lookup f = some d) (hb : attributeBase (.Name x po) f X.env (eval (.Name x po) X.env) = eval (.Name x po) X.env := by rfl) :
    E X b S (.Attribute (.Name x po) f pos) (.val d) S :=
  PE.w (pe_fld hx hb) fun σ H Q ⟨G, st, q⟩ => by
    obtain ⟨a, dx, vs, h1, ap, h2, r⟩ := st.slotI hs
    obtain ⟨v, h3, rv⟩ := r.look hf
    exact ⟨_, h1, a, C, dx, vs, v, rfl, h2, c, n, h3, q v G H st (Ex.refl G) rv⟩
/-- o.f = e -/
theorem B_fld (i : Nat) (c : Cls X.K C) (n : NoAttr X.K C f) (he : E X b S e (.val d) S1) (hs1 : S1[i]? = some (.ins l C fs)) (hx : PE X (.Name x po) (tVar i)) (hz : fs.length ≤ 100) (k : SS X b (S1.set i (.ins l C (putD f d fs))) rest P)
    (hs : swapsWith e (some (.Attribute (.Name x po) f pa)) pos.line X.env = pure false := by rfl) : SS X b S (.Assign [.Attribute (.Name x po) f pa] e pos :: rest) P :=
  ss_cons (Mid := fun S' => S' = S1.set i (.ins l C (putD f d fs))) (PS.w (ps_fld hx he hs) fun D σ H ⟨G, st, q1, _⟩ => ⟨G, st, fun v G2 H2 st2 x2 rv => by
    obtain ⟨a, dx, vs, h1, ap, h2, r⟩ := st2.slotI hs1
    exact ⟨_, h1, a, C, dx, vs, rfl, h2, c, n, by rw [r.length]; omega, q1 G2 _ σ _ (st2.write (s' := .ins l C (putD f d fs)) h1 hs1 rfl rfl rfl ⟨dx, _, upd_same, r.put rv⟩) x2 rfl⟩⟩) fun S' h => by rw [h]; exact k
/-- o.m(e, ..) -/
theorem E_meth (i : Nat) {pl : Sem Bool} {pre : List (Str × PyData) → List PyData → PyData → List (Str × PyData) → Prop} (c : Cls X.K C) (M : Md X.prog X.w X.K X.mg X.base CX0 k C m ps (spM X.K tb C pre)) (hr : Room k X.A) (hs0 : ∃ z, S[i]? = some (.ins l C z) ∧ z.lookup m = none) (hx : PE X (.Name x po) (tVar i)) (ha : A X b S (e :: es) ds S1) (hs1 : S1[i]? = some (.ins l C fs)) (hp : pre fs ds d fs')
    (hst : starEach (e :: es) X.env = (false, eval e X.env) :: starEach es X.env := by rfl) (hpl : (backTo pos (starEach es X.env)).any (·.1) = false := by rfl)
    (ht : eval (.Call (.Attribute (.Name x po) m pa) (e :: es) [] pos) X.env = (do
      let ov ← eval (.Name x po) X.env
      standAt pa.atName
      let (f, first) ← holding [ov] (getMethod ov m pl)
      callWith pos f first (backTo pos (starEach (e :: es) X.env)) (backToKw pos (keywordEach [] X.env))) := by rfl) :
    E X b S (.Call (.Attribute (.Name x po) m pa) (e :: es) [] pos) (.val d) (S1.set i (.ins l C fs')) := by
  obtain ⟨fa, fd, F, hm, hb⟩ := M
  obtain ⟨z, hz0, hz1⟩ := hs0
  refine PE.w (pe_meth (pl := pl) hx c hm F hr hb .nil pass0 ha hst hpl ht) fun σ H Q ⟨G, st, q⟩ => ?_
  obtain ⟨a, dx, vs, h1, ap, h2, r⟩ := st.slotI hz0
  refine ⟨_, h1, a, dx, vs, rfl, h2, r.none hz1, G, st, fun ws G2 H2 st2 x2 r2 => ?_⟩
  obtain ⟨a', dx', vs', h1', ap', h2', r'⟩ := st2.slotI hs1
  have ea : a = a' := by rw [h1] at h1'; cases h1'; rfl
  subst ea
  show spM X.K tb C pre (.ref a :: (ws ++ [])) H2 Q E0
  rw [List.append_nil]
  refine ⟨G2, a, dx', vs', ws, fs, ds, d, fs', hp, st2.tabs, rfl, st2.sub, h2', r', ap'.hg, r2, fun v G' H' dx2 rs' y0 y1 y2 y3 y4 y5 y6 y7 y8 rv => ?_⟩
  exact q v G' H' (st2.calledAt (s' := .ins l C fs') h1' hs1 rfl rfl rfl y0 y1 y2 y3 y4 y5 y6 ⟨dx2, rs', y7, y8⟩) (x2.trans y1) rv
theorem E_meth0 (i : Nat) {pl : Sem Bool} {pre : List (Str × PyData) → List PyData → PyData → List (Str × PyData) → Prop} (c : Cls X.K C) (M : Md X.prog X.w X.K X.mg X.base CX0 k C m ps (spM X.K tb C pre)) (hr : Room k X.A) (hs1 : S[i]? = some (.ins l C fs)) (hx : PE X (.Name x po) (tVar i)) (hm0 : fs.lookup m = none) (hp : pre fs [] d fs')
    (ht : eval (.Call (.Attribute (.Name x po) m pa) [] [] pos) X.env = (do
      let ov ← eval (.Name x po) X.env
      standAt pa.atName
      let (f, first) ← holding [ov] (getMethod ov m pl)
      callWith pos f first (backTo pos (starEach [] X.env)) (backToKw pos (keywordEach [] X.env))) := by rfl) :
    E X b S (.Call (.Attribute (.Name x po) m pa) [] [] pos) (.val d) (S.set i (.ins l C fs')) := by
  obtain ⟨fa, fd, F, hm, hb⟩ := M
  refine PE.w (pe_meth0 (pl := pl) hx c hm F hr hb .nil pass0 ht) fun σ H Q ⟨G, st, q⟩ => ?_
  obtain ⟨a, dx, vs, h1, ap, h2, r⟩ := st.slotI hs1
  refine ⟨_, h1, a, dx, vs, rfl, h2, r.none hm0, ?_⟩
  show spM X.K tb C pre [.ref a] H Q E0
  refine ⟨G, a, dx, vs, [], fs, [], d, fs', hp, st.tabs, rfl, st.sub, h2, r, ap.hg, .nil, fun v G' H' dx2 rs' y0 y1 y2 y3 y4 y5 y6 y7 y8 rv => ?_⟩
  exact q v G' H' (st.calledAt (s' := .ins l C fs') h1 hs1 rfl rfl rfl y0 y1 y2 y3 y4 y5 y6 ⟨dx2, rs', y7, y8⟩) y1 rv
/-- o.f, a property -/
theorem E_prop (i : Nat) {pre : List (Str × PyData) → List PyData → PyData → List (Str × PyData) → Prop} (c : Cls X.K C) (M : Mp X.prog X.w X.K X.mg X.base k C f (spM X.K tb C pre)) (hr : Room (k + 1) X.A) (hs1 : S[i]? = some (.ins l C fs)) (hx : PE X (.Name x po) (tVar i)) (hp : pre fs [] d fs)
    (hb : attributeBase (.Name x po) f X.env (eval (.Name x po) X.env) = eval (.Name x po) X.env := by rfl) : E X b S (.Attribute (.Name x po) f pos) (.val d) S := by
  obtain ⟨pp, fa, fd, F, hm, hbi⟩ := M
  refine PE.w (pe_prop hx c hm F hr hbi .nil pass0 hb) fun σ H Q ⟨G, st, q⟩ => ?_
  obtain ⟨a, dx, vs, h1, ap, h2, r⟩ := st.slotI hs1
  refine ⟨_, h1, a, dx, vs, rfl, h2, ?_⟩
  show spM X.K tb C pre [.ref a] H Q E0
  refine ⟨G, a, dx, vs, [], fs, [], d, fs, hp, st.tabs, rfl, st.sub, h2, r, ap.hg, .nil, fun v G' H' dx2 rs' y0 y1 y2 y3 y4 y5 y6 y7 y8 rv => ?_⟩
  have s2 := st.calledAt (s' := .ins l C fs) h1 hs1 rfl rfl rfl y0 y1 y2 y3 y4 y5 y6 ⟨dx2, rs', y7, y8⟩
  rw [set_same hs1] at s2
  exact q v G' H' s2 y1 rv
/-- C(e, ..) -/
theorem E_make {pre : List (Str × PyData) → List PyData → PyData → List (Str × PyData) → Prop} (M : Mi X.prog X.w X.K X.mg X.base CX0 k C ps (spM X.K tb C pre)) (hm : X.mg x = some (.ref C)) (hr : Room (k + 1) X.A) (hg : Gl X x) (ha : A X b S (e :: es) ds S1) (hp : pre [] ds .none fs')
    (hdb : (x == ("__debug__" : Str)) = false := by decide) (he : starEach (e :: es) X.env = (false, eval e X.env) :: starEach es X.env := by rfl) (hpl : (backTo pos (starEach es X.env)).any (·.1) = false := by rfl) :
    E X b S (.Call (.Name x p) (e :: es) [] pos) (.obj C fs') S1 := by
  obtain ⟨fa, fd, F, hk, hb⟩ := M
  refine PE.w (pe_make hk F hr hg hm hb .nil pass0 ha hdb he hpl) fun σ H Q ⟨G, st, q⟩ => ⟨G, st, fun vs G2 H2 st2 x2 r => ?_⟩
  intro a dx na ndx ne
  show spM X.K tb C pre (.ref a :: (vs ++ [])) _ _ E0
  rw [List.append_nil]
  have st3 := st2.poke (o := .own a) (st2.sub.dom ndx) (st2.base.dom ndx) fun i q w => st2.ownNe ndx w
  have na3 : upd H2 dx (.own a) a = none := by rw [upd_ne (fun z => ne z.symm)]; exact na
  have st4 := st3.poke (o := .ins C dx []) (st3.sub.dom na3) (st3.base.dom na3) fun i q w => st3.ownNe na3 w
  refine ⟨G2, a, dx, [], vs, [], ds, .none, fs', hp, st4.tabs, rfl, st4.sub, upd_same, .nil, st3.sub.dom na3, r, fun v G' H' dx2 rs' y0 y1 y2 y3 y4 y5 y6 y7 y8 rv => ?_⟩
  cases rv
  have y4' : Ex (upd H2 dx (.own a)) H' := fun c o h => y4 c o (ne_of_none h na3) (by rw [upd_ne (ne_of_none h na3)]; exact h)
  have y5' : ∀ c, H' c = none → upd H2 dx (.own a) c = none := fun c h => by
    have := y5 c h
    by_cases hc : c = a
    · subst hc; exact na3
    · rw [upd_ne hc] at this; exact this
  have y2' : New G2 G' (upd H2 dx (.own a)) := fun c h => by
    rcases y2 c h with z | z
    · exact .inl z
    · by_cases hc : c = a
      · subst hc; exact .inr na3
      · rw [upd_ne hc] at z; exact .inr z
  have s5 := st3.called y0 y1 y2' y3 y4' y5'
  refine ⟨rfl, q _ G' H' s5 (x2.trans y1) ⟨a, dx2, rs', rfl, y7, y8, ⟨st3.base.dom na3, y6, fun _ => st3.nw _ na3, fun z => by cases z⟩, fun i q w => st3.ownNe na3 w⟩⟩
/-- x = a new object -/
theorem B_obj (i : Nat) {px : Pos} (he : E X b S e (.obj C fs) S1) (hN : X.N.Nodup) (hi : X.N[i]? = some x) (hx : Loc X.env.scope x) (k : SS X b (S1.set i (.ins true C fs)) rest P) (hs : swapsWith e (some (.Name x px)) pos.line X.env = pure false := by rfl) (hf : X.fn x = true ∨ X.env.scope.names.lookup x = some .local := by first | exact .inl rfl | exact .inr rfl) :
    SS X b S (.Assign [.Name x px] e pos :: rest) P :=
  ss_cons (Mid := fun S' => S' = S1.set i (.ins true C fs)) (PS.w (ps_set hN hi hx he hs hf) fun D σ H ⟨G, st, q1, _⟩ => ⟨G, st, fun v G2 H2 st2 x2 r => by
    obtain ⟨q, dx, vs, rfl, hq, rv, ap, ho⟩ := r
    exact q1 G2 H2 _ _ (st2.put (s := .ins true C fs) ⟨q, rfl, ap, dx, vs, hq, rv⟩ fun _ j q' e _ w => ho j q' w (by cases e; rfl)) x2 rfl⟩) fun S' h => by rw [h]; exact k
/-! ### what raises -/
def tMethS (C : Addr) (m : Str) (sp : Sp) (E : L2.St → XK) (ta : TE) (t : TA) : TE := fun σ H Q => ta σ H fun x H1 => ∃ a dx fs, x = .ref a ∧ H1 a = some (.ins C dx fs) ∧ fs.lookup m = none ∧
  t σ H1 fun vs H2 => sp (x :: vs) H2 Q (E σ)
theorem pe_methSD {CX : CXT} {sp : Sp} {g : Addr} {fd : FuncData} {E : L2.St → XK} {o : Expr} {ta : TE} {t : TA} {pl : Sem Bool} (he : PE X o ta) (c : Cls X.K C) (hm : Meth X.K C m g) (F : FnOk X.prog X.w X.K X.mg X.base CX k g fd ps sp) (hr : Room k X.A) (hb : Binds X.K fd ps []) (hx : ∀ σ, PassesAt CX X σ (E σ)) (ha : PA X (e :: es) t)
    (hst : starEach (e :: es) X.env = (false, eval e X.env) :: starEach es X.env) (hpl : (backTo pos (starEach es X.env)).any (·.1) = false)
    (ht : eval (.Call (.Attribute o m pa) (e :: es) [] pos) X.env = (do
      let ov ← eval o X.env
      standAt pa.atName
      let (f, first) ← holding [ov] (getMethod ov m pl)
      callWith pos f first (backTo pos (starEach (e :: es) X.env)) (backToKw pos (keywordEach [] X.env)))) :
    PE X (.Call (.Attribute o m pa) (e :: es) [] pos) (tMethS C m sp E ta t) := by
  refine ⟨fun pins s σ H Q I h => ?_⟩
  refine PySem.W.methodCall_KW (pl := pl) (thn (he.run pins s σ H _ I h) fun u s1 hh => ?_) ht
  obtain ⟨x, H1, I1, rx, a, dx, fs, ex, ea, l, q⟩ := hh
  subst ex
  obtain rfl : u = Value.ref a := rx
  refine getmeth_ok I1 ea c hm l ?_
  refine PySem.W.callWith_K (first := [.ref a]) (h₀ := X.base) I.ok.mod.kin hm.kp (thn (ha.run pos pins s1 σ H1 _ I1 q) fun us s2 hh => ?_) hst hpl
  obtain ⟨vs, H2, I2, r, q2⟩ := hh
  exact ⟨I2.kIn, run_fnS (us := .ref a :: us) (vs := .ref a :: vs) F hr hb (hx σ) I2 (.cons rfl r) q2⟩
/-- o.m(e, ..), that raises -/
theorem EX_meth (i : Nat) {pl : Sem Bool} {pre : List (Str × PyData) → List PyData → Str → Fo → Prop} (c : Cls X.K C) (M : Md X.prog X.w X.K X.mg X.base (L2.CX X.prog X.w) k C m ps (spMX X.K X.mg tb C pre)) (tk : Takes X b.W) (hr : Room k X.A) (hs0 : ∃ z, S[i]? = some (.ins l C z) ∧ z.lookup m = none) (hx : PE X (.Name x po) (tVar i)) (ha : A X b S (e :: es) ds S1) (hs1 : S1[i]? = some (.ins l C fs)) (hp : pre fs ds nm fo) (hc : X.mg nm = some cls)
    (hst : starEach (e :: es) X.env = (false, eval e X.env) :: starEach es X.env := by rfl) (hpl : (backTo pos (starEach es X.env)).any (·.1) = false := by rfl)
    (ht : eval (.Call (.Attribute (.Name x po) m pa) (e :: es) [] pos) X.env = (do
      let ov ← eval (.Name x po) X.env
      standAt pa.atName
      let (f, first) ← holding [ov] (getMethod ov m pl)
      callWith pos f first (backTo pos (starEach (e :: es) X.env)) (backToKw pos (keywordEach [] X.env))) := by rfl) :
    EX X b S (.Call (.Attribute (.Name x po) m pa) (e :: es) [] pos) cls fo S1 := by
  obtain ⟨fa, fd, F, hm, hb⟩ := M
  obtain ⟨z, hz0, hz1⟩ := hs0
  refine PE.w (pe_methSD (E := WE b.W) (pl := pl) hx c hm F hr hb (fun σ => passAt tk σ) ha hst hpl ht) fun σ H Q ⟨G, st, q⟩ => ?_
  obtain ⟨a, dx, vs, h1, ap, h2, r⟩ := st.slotI hz0
  refine ⟨_, h1, a, dx, vs, rfl, h2, r.none hz1, G, st, fun ws G2 H2 st2 x2 r2 => ?_⟩
  obtain ⟨a', dx', vs', h1', ap', h2', r'⟩ := st2.slotI hs1
  have ea : a = a' := by rw [h1] at h1'; cases h1'; rfl
  subst ea
  exact ⟨G2, a, dx', vs', ws, fs, ds, nm, cls, fo, hp, hc, st2.tabs, rfl, st2.sub, h2', r', ap'.hg, r2, fun d G' H' dx2 rs' y0 y1 y2 y3 y4 y5 y6 y7 y8 xo => by
    have s2 := st2.calledAt (s' := .ins l C fs) h1' hs1 rfl rfl rfl y0 y1 y2 y3 y4 y5 y6 ⟨dx2, rs', y7, y8⟩
    rw [set_same hs1] at s2
    exact q d G' H' s2 (x2.trans y1) xo⟩
end
/-! ### methods' bodies -/
/-- what a method's body is to show -/
def poM (C : Addr) (d : PyData) (fs : List (Str × PyData)) : Po := { nx := fun S => d = .none ∧ S[0]? = some (.ins false C fs), rt := fun d' S => d' = d ∧ S[0]? = some (.ins false C fs) }
section
variable {P : Program} {w : World} {K : PySem.W.Frag} {tb : Tbs} {mg : Str → Option Value} {base : Heap} {x qual : Str} {st : Stmt} {f C : Addr} {fd : FuncData} {N ps : List Str} {k : Nat}
theorem fn_mkM {pre : List (Str × PyData) → List PyData → PyData → List (Str × PyData) → Prop} (F : Fun K x qual st f fd) (S : FnScope N ps (defScope st))
    (len : ∀ fs ds d fs', pre fs ds d fs' → ds.length + 1 = ps.length)
    (body : ∀ (cdv : Value) (A : Around) (outer : List Env) (s : Shared) (H : Hp) (E : XK) (b : Bx tb) (fs : List (Str × PyData)) (ds : List PyData) (d : PyData) (fs' : List (Str × PyData)), Room k (A.deeper (envOfC qual (defScope st) s.heap.objs.size f cdv)) → pre fs ds d fs' →
      SS (cxOf CX0 P w K mg base N qual (defScope st) f cdv A outer s H E).nox b (slots0 N (.ins false C fs :: ds.map Sl.val)) (defBody st) (poM C d fs')) : FnOk P w K mg base CX0 (k + 1) f fd ps (spM K tb C pre) := by
  refine F.ok S (fun vs H Q E h => ?_) (fun cdv A outer s H vs Q E hr h => ?_)
  · obtain ⟨G, p, dx, rs, ws, fs, ds, d, fs', hp, _, rfl, _, _, _, _, r, _⟩ := h
    show ws.length + 1 = _
    rw [r.length]; exact len fs ds d fs' hp
  · obtain ⟨G, p, dx, rs, ws, fs, ds, d, fs', hp, ht, rfl, x, hH, rr, gp, r, q⟩ := h
    have fin : ∀ v G2 H2 σ2 S2, StOk K (⟨fun c => if c = p then none else H c, G, H, W0⟩ : Bx tb) G2 H2 σ2 S2 → Rp K G2 v d → S2[0]? = some (.ins false C fs') → Q v H2 := fun v G2 H2 σ2 S2 st2 rv h0 => by
      obtain ⟨a, dx2, vs, h1, ap, h2, rv2⟩ := st2.slotI h0
      have ea : a = p := by
        by_cases c : a = p
        · exact c
        · have z : (if a = p then none else H a) = none := ap.hb
          rw [if_neg c] at z
          exact absurd z (ap.h1 rfl)
      subst ea
      refine q v G2 H2 dx2 vs st2.tabs st2.g0 st2.gn st2.sub (fun c o hc e => ?_) st2.nw ap.hg h2 rv2 rv
      exact st2.base c o (show (if c = a then none else H c) = some o by rw [if_neg hc]; exact e)
    refine ⟨_, body cdv A outer s H E ⟨fun c => if c = p then none else H c, G, H, W0⟩ fs ds d fs' hr hp, G, st_startS x ht r gp rfl rfl ⟨dx, rs, hH, rr⟩, ?_, ?_, ?_, ?_, ?_⟩
    · intro G2 H2 σ2 S2 st2 x2 hd
      obtain ⟨hd, h0⟩ : d = .none ∧ S2[0]? = some (Sl.ins false C fs') := hd
      subst hd
      exact fin .non G2 H2 σ2 S2 st2 .non h0
    · intro v G2 H2 σ2 S2 d2 st2 x2 rv hd
      obtain ⟨hd, h0⟩ : d2 = d ∧ S2[0]? = some (Sl.ins false C fs') := hd
      subst hd
      exact fin v G2 H2 σ2 S2 st2 rv h0
    · exact fun _ _ _ _ _ _ z => z.elim
    · exact fun _ _ _ _ _ _ z => z.elim
    · exact fun _ _ _ _ _ _ _ _ _ _ z => z.elim
theorem fn_mkMX {pre : List (Str × PyData) → List PyData → Str → Fo → Prop} (F : Fun K x qual st f fd) (S : FnScope N ps (defScope st))
    (len : ∀ fs ds nm fo, pre fs ds nm fo → ds.length + 1 = ps.length)
    (body : ∀ (cdv : Value) (A : Around) (outer : List Env) (s : Shared) (H : Hp) (E : XK) (b : Bx tb) (fs : List (Str × PyData)) (ds : List PyData) (nm : Str) (fo : Fo), Room k (A.deeper (envOfC qual (defScope st) s.heap.objs.size f cdv)) → Takes (cxOf (L2.CX P w) P w K mg base N qual (defScope st) f cdv A outer s H E) b.W →
      PassesOwn (model P w) (A.deeper (envOfC qual (defScope st) s.heap.objs.size f cdv)) (envOfC qual (defScope st) s.heap.objs.size f cdv) (cxOf (L2.CX P w) P w K mg base N qual (defScope st) f cdv A outer s H E).xe → pre fs ds nm fo →
      SS (cxOf (L2.CX P w) P w K mg base N qual (defScope st) f cdv A outer s H E) b (slots0 N (.ins false C fs :: ds.map Sl.val)) (defBody st) { nx := fun _ => False, rt := fun _ _ => False, xr := fun cls fo' S2 => mg nm = some cls ∧ fo' = fo ∧ S2[0]? = some (.ins false C fs) }) : FnOk P w K mg base (L2.CX P w) (k + 1) f fd ps (spMX K mg tb C pre) := by
  obtain ⟨oc, od, kV, doc, pm, an, cdv, ct, osl, rfl, lk, hcd⟩ := F.ex
  refine fn_of lk hcd S (fun vs H Q E h => ?_) (fun A outer s H vs Q E hr h => ?_)
  · obtain ⟨G, p, dx, rs, ws, fs, ds, nm, cls, fo, hp, _, _, rfl, _, _, _, _, r, _⟩ := h
    show ws.length + 1 = _
    rw [r.length]; exact len fs ds nm fo hp
  · obtain ⟨G, p, dx, rs, ws, fs, ds, nm, cls, fo, hp, hcl, ht, rfl, x, hH, rr, gp, r, q⟩ := h
    refine ⟨_, body cdv A outer s H E ⟨fun c => if c = p then none else H c, G, H, fun cls d _ H' => E cls d H'⟩ fs ds nm fo hr (takes_of rfl rfl rfl rfl) (passes_of rfl) hp, G, st_startS x ht r gp rfl rfl ⟨dx, rs, hH, rr⟩, ?_, ?_, ?_, ?_, ?_⟩
    · exact fun _ _ _ _ _ _ z => z.elim
    · exact fun _ _ _ _ _ _ _ _ _ z => z.elim
    · exact fun _ _ _ _ _ _ z => z.elim
    · exact fun _ _ _ _ _ _ z => z.elim
    · intro G2 H2 σ2 S2 cls2 d fo2 st2 x2 xo hz
      obtain ⟨h1, h2, h0⟩ : mg nm = some cls2 ∧ fo2 = fo ∧ S2[0]? = some (Sl.ins false C fs) := hz
      subst h2
      have h3 := hcl.symm.trans h1
      cases h3
      obtain ⟨a, dx2, vs, h1, ap, h2, rv2⟩ := st2.slotI h0
      have ea : a = p := by
        by_cases c : a = p
        · exact c
        · have z : (if a = p then none else H a) = none := ap.hb
          rw [if_neg c] at z
          exact absurd z (ap.h1 rfl)
      subst ea
      refine q d G2 H2 dx2 vs st2.tabs st2.g0 st2.gn st2.sub (fun c o hc e => ?_) st2.nw ap.hg h2 rv2 xo
      exact st2.base c o (show (if c = a then none else H c) = some o by rw [if_neg hc]; exact e)
end
end D

set_option Elab.async false
set_option linter.all false
set_option maxRecDepth 100000
set_option maxHeartbeats 2000000
set_option autoImplicit false
/-! Dk: lambdas; min with a key. -/
namespace D
open PySem PySem.Spec PyProof.Rows L2
abbrev lamObj (nm : Str) (params : Arguments) (body : Expr) (scope : Scope) (cl : List (Str × Addr)) (pm : Value) (cc : Addr) (ctv : Value) : Obj := PySem.W.kla_obj "<lambda>" nm params body scope cl pm cc ctv
/-- what the making of a lambda does to the known heap -/
inductive LamH (P cc : Addr) (nm : Str) (pos : Pos) (H : Hp) : Hp → Prop
  | old : LamH P cc nm pos H H
  | made {tp : Array Value} : H P = some (.tbl tp) → TriplesOk tp.toList → H cc = none → LamH P cc nm pos H (upd (upd H P (.tbl (tp ++ #[rawInt pos.line, rawInt pos.col, .ref cc]))) cc (LamX.CodeO cc nm))
section
variable {X : Cx} {pins : List (Addr × Obj)} {σ : L2.St} {H : Hp} {s : Shared}
theorem lam_new {nm : Str} {c P : Addr} {params : Arguments} {body : Expr} {scope : Scope} {pos : Pos} {E : Value → Shared → Prop} {Q : Value → Shared → Prop} (I : Inv X pins σ H s) (hnm : nm = X.env.qual ++ "<lambda>") (tb1 : GxR.TabB X.base X.mg c P) (hcd : X.env.code = .ref c)
    (hT : LamX.TabS H P nm) (hdef : defaultsOf params X.env = ([], [])) (hfree : ∀ y ∈ scope.names, y.2 = .free → ∃ d, X.env.cells.lookup y.1 = some d)
    (h : ∀ (f cc : Addr) (pm ctv : Value) (H1 : Hp) (t : Shared), Inv X pins σ H1 t → LamH P cc nm pos H H1 → s.heap.objs.size ≤ f → f < t.heap.objs.size → t.heap.get? f = some (lamObj nm params body scope (cloFrom X.env.cells scope.names []) pm cc ctv) → H1 f = none → H1 cc = some (LamX.CodeO cc nm) → Q (.ref f) t) :
    wpAny (model X.prog X.w) X.A (eval (.Lambda params body scope pos) X.env) Q E s := by
  subst hnm
  obtain ⟨tp, hP, hk, ha⟩ := hT
  refine PySem.W.kla_eval hdef ?_
  have bm := tb1.bm.keeps I.bk
  have hs : s.heap.get? P = some { cls := .none, data := .fields tp } := I.hok P _ hP
  cases hq : codeAmong pos tp.toList with
  | none =>
    refine PySem.W.kla_makeFunction (c := c) (P := P) (mg := X.mg) (ps := tp) (closure_ok hfree) I.ok.glob (I.mod.glob.keeps I.bk) hcd (tb1.code.keeps I.bk) hs hk hq tb1.gP bm fun cc ctv hp tk hx hge hlt hrec htb => ?_
    obtain ⟨cd2, oc, vs, t, q1, q2, q3, q4⟩ := hrec
    cases q1
    have sz : s.heap.objs.size ≤ hp.objs.size := Nat.le_trans hge (Nat.le_of_lt hlt)
    have nC : H cc = none := I.hok.fresh hge
    have J := LamX.inv_table (t' := tk) (more := #[rawInt pos.line, rawInt pos.col, .ref cc]) (h' := hp.push (lamObj (X.env.qual ++ "<lambda>") params body scope (cloFrom X.env.cells scope.names []) ((X.mg "__name__").getD .none) cc ctv)) I hP
      (fun d u e1 e2 => Heap.get?_push_of_some _ (hx d u e1 e2)) (Heap.get?_push_of_some _ htb) hge ⟨oc, vs, t, Heap.get?_push_of_some _ q2, q3, q4⟩
    refine h hp.objs.size cc _ ctv _ _ J (.made hP hk nC) sz (by rw [Heap.size_push]; exact Nat.lt_succ_self _) (Heap.get?_push_size _ rfl) ?_ upd_same
    rw [upd_ne (Nat.ne_of_gt hlt), upd_ne (Nat.ne_of_gt (Nat.lt_of_lt_of_le (Heap.lt_size hs) sz))]
    exact I.hok.fresh sz
  | some cv =>
    obtain ⟨cc, e, hco⟩ := ha pos cv hq
    subst e
    refine PySem.W.kla_makeFunctionHit (c := c) (P := P) (mg := X.mg) (ps := tp) (closure_ok hfree) I.ok.glob (I.mod.glob.keeps I.bk) hcd (tb1.code.keeps I.bk) hs hk hq bm fun ctv hp tk hx sz => ?_
    have J : Inv X pins σ H { s with heap := hp.push (lamObj (X.env.qual ++ "<lambda>") params body scope (cloFrom X.env.cells scope.names []) ((X.mg "__name__").getD .none) cc ctv), toks := tk } := I.kept fun d u e => Heap.get?_push_of_some _ (hx d u e)
    exact h hp.objs.size cc _ ctv H _ J .old sz (by show _ < (hp.push _).objs.size; rw [Heap.size_push]; exact Nat.lt_succ_self _) (Heap.get?_push_size _ rfl) (I.hok.fresh sz) hco
end
section
variable {K : PySem.W.Frag} {tb : Tbs} {b : Bx tb} {G H H1 : Hp} {σ : L2.St} {S : List Sl} {P cc : Addr} {nm : Str} {pos : Pos}
/-- a named table has grown -/
theorem StOk.grownN (h : StOk K b G H σ S) (hP : (P, nm) ∈ tb) (hun : ∀ q ∈ tb, q.1 = P → q.2 = nm) {ps : Array Value} (t2 : TriplesOk ps.toList) (hc : ∀ (ps0 : Pos) (cv : Value), codeAmong ps0 ps.toList = some cv → ∃ d, cv = .ref d ∧ G d = some (LamX.CodeO d nm)) :
    StOk K b (upd G P (.tbl ps)) (upd H P (.tbl ps)) σ S ∧ Ex G (upd G P (.tbl ps)) := by
  obtain ⟨ps0, g0, t0⟩ := (h.tabs _ hP).g
  obtain ⟨ps1, e1, t1⟩ := h.sub P _ g0
  have x : ∀ {A : Hp} {qs : Array Value}, A P = some (.tbl qs) → Ex A (upd A P (.tbl ps)) := fun {A qs} eA a o e => by
    by_cases c : a = P
    · subst c
      rw [eA] at e
      cases e
      exact ⟨ps, upd_same, fun _ => t2⟩
    · rw [upd_ne c, e]; exact kp_refl o
  have xG := x g0
  have codes : ∀ {d : Addr} {q : Str}, G d = some (LamX.CodeO d q) → upd G P (.tbl ps) d = some (LamX.CodeO d q) := fun {d q} e => by
    rw [upd_ne (fun z => by rw [z, g0] at e; exact LamX.codeO_ne _ (Option.some.inj e).symm)]
    exact e
  refine ⟨h.move (fun q hq => ?_) xG (fun a o e => ?_) (fun a o e => ?_) (fun a e => ?_) (fun a e => ?_) (fun i q w => ?_), xG⟩
  · by_cases c : q.1 = P
    · refine ⟨by rw [c]; exact ⟨ps, upd_same, t2⟩, fun n => ⟨?_, by rw [c, upd_same, upd_same]⟩⟩
      rw [c, hun q hq c]
      refine ⟨ps, upd_same, t2, fun p0 cv z => ?_⟩
      obtain ⟨d, z1, z2⟩ := hc p0 cv z
      exact ⟨d, z1, codes z2⟩
    · refine ⟨xG.tab (h.tabs q hq).g, fun n => ?_⟩
      obtain ⟨⟨ps', k1, k2, k3⟩, k4⟩ := (h.tabs q hq).l n
      refine ⟨⟨ps', by rw [upd_ne c]; exact k1, k2, fun p0 cv z => ?_⟩, by rw [upd_ne c, upd_ne c]; exact k4⟩
      obtain ⟨d, z1, z2⟩ := k3 p0 cv z
      exact ⟨d, z1, codes z2⟩
  · by_cases c : a = P
    · subst c
      rw [upd_same] at e ⊢
      cases e
      exact kp_refl _
    · rw [upd_ne c] at e ⊢
      exact h.sub a o e
  · exact (h.base.trans (x e1)) a o e
  · by_cases c : a = P
    · subst c; rw [upd_same] at e; cases e
    · rw [upd_ne c] at e; exact h.nw a e
  · by_cases c : a = P
    · subst c; exact h.gn a (by rw [g0]; intro z; cases z)
    · rw [upd_ne c] at e; exact h.gn a e
  · have hn : q ≠ P := fun z => by
      have := (h.ownB w).2.1
      rw [z, g0] at this; cases this
    rw [upd_ne hn, upd_ne hn]
    exact ⟨rfl, (h.ownB w).2.1⟩
/-- the known heap behind a lambda's making -/
theorem StOk.lam (h : StOk K b G H σ S) (hP : (P, nm) ∈ tb) (hun : ∀ q ∈ tb, q.1 = P → q.2 = nm) (hne : nm ≠ "") (lh : LamH P cc nm pos H H1) : ∃ G1, StOk K b G1 H1 σ S ∧ Ex G G1 := by
  cases lh with
  | old => exact ⟨G, h, Ex.refl G⟩
  | @made tp hP1 ht hc =>
    obtain ⟨⟨ps, k1, k2, k3⟩, k4⟩ := (h.tabs _ hP).l hne
    have e : ps = tp := by
      have z := k4.symm.trans hP1
      rw [k1] at z
      cases z
      rfl
    subst e
    have st1 := h.new (o := LamX.CodeO cc nm) hc
    have ne : P ≠ cc := fun z => by rw [z, hc] at hP1; cases hP1
    have eL : (ps ++ #[rawInt pos.line, rawInt pos.col, .ref cc]).toList = ps.toList ++ [rawInt pos.line, rawInt pos.col, .ref cc] := by simp
    obtain ⟨st2, x2⟩ := st1.grownN hP hun (ps := ps ++ #[rawInt pos.line, rawInt pos.col, .ref cc]) (by rw [eL]; exact PySem.TriplesOk_snoc _ _ _ _ ht) (fun p0 cv z => by
      rw [eL] at z
      rcases LamX.among_app _ ht z with z | z
      · obtain ⟨d, z1, z2⟩ := k3 p0 cv z
        exact ⟨d, z1, h.newEx hc d _ z2⟩
      · exact ⟨cc, z, upd_same⟩)
    have eH : upd (upd H cc (LamX.CodeO cc nm)) P (.tbl (ps ++ #[rawInt pos.line, rawInt pos.col, .ref cc])) = upd (upd H P (.tbl (ps ++ #[rawInt pos.line, rawInt pos.col, .ref cc]))) cc (LamX.CodeO cc nm) := by
      funext a
      by_cases c1 : a = P
      · subst c1; rw [upd_same, upd_ne ne, upd_same]
      · rw [upd_ne c1]
        by_cases c2 : a = cc
        · subst c2; rw [upd_same, upd_same]
        · rw [upd_ne c2, upd_ne c2, upd_ne c1]
    rw [eH] at st2
    exact ⟨_, st2, (h.newEx hc).trans x2⟩
end
theorem clo_nil {cells : List (Str × Addr)} : ∀ {names : List (Str × NameKind)}, (∀ y ∈ names, y.2 ≠ .free) → cloFrom cells names [] = []
  | [], _ => rfl
  | (x, k) :: r, h => by
    have ih := clo_nil (cells := cells) (names := r) fun y hy => h y (List.mem_cons_of_mem _ hy)
    have hk : k ≠ .free := h (x, k) List.mem_cons_self
    cases k with
    | free => exact absurd rfl hk
    | _ => exact ih
/-- a lambda is called: it captures nothing -/
theorem lam_call {P : Program} {w : World} {K : PySem.W.Frag} {mg : Str → Option Value} {base : Heap} {A : Around} {outer : List Env} {s : Shared} {H : Hp} {f cc : Addr} {nm : Str} {params : Arguments} {body : Expr} {scope : Scope} {pm ctv : Value} {N ps : List Str} {us : List Value} {vs : List V} {Q : VK} {E : XK} {k : Nat}
    (e0 : Env0 P w K mg base A outer s H) (hf : s.heap.get? f = some (lamObj nm params body scope [] pm cc ctv)) (hc : ∃ (oc : Obj) (fs : Array Value) (t : Tok), s.heap.get? cc = some oc ∧ oc.data = .fields fs ∧ fs[1]? = some (.str nm t)) (Sc : FnScope N ps scope)
    (hb : bindArgs (PySem.W.kla_fn "<lambda>" nm params body scope [] pm (.ref cc) ctv) ⟨us, []⟩ = pure (ps.zip us)) (r : Vals vs us) (hl : vs.length = ps.length) (hr : Room (k + 1) A)
    (hbody : Room k (A.deeper (envOfC nm scope s.heap.objs.size f (.ref cc))) → ∃ t, PE (cxOf CX0 P w K mg base N nm scope f (.ref cc) A outer s H E) body t ∧ t (L2.start N vs) H Q) :
    codeAny (model P w) A (.call (.ref f) ⟨us, []⟩) (CR CX0 outer P w H s Q E) s := by
  obtain ⟨oc, fs, t, c1, c2, c3⟩ := hc
  have lim : s.heap.NoLimit := e0.mod.nolimit.keeps fun b o e => (e0.bs b o e).1
  have hkind : ∀ y ∈ ps.zip us, scope.names.lookup y.1 = some .local ∨ (scope.names.lookup y.1 = some .cell ∧ ((cellsFrom (s.heap.objs.size + 1) scope.names []).lookup y.1).isSome = true) := fun ⟨n, v⟩ hy => by
    rcases Sc.par n (List.of_mem_zip hy).1 with q | q
    · exact .inl q
    · exact .inr ⟨q, PySem.W.cellsFrom_some _ _ _ (.inl q)⟩
  refine PySem.W.kla_callFunE hr.depth hf rfl Sc.co Sc.gen rfl ⟨cc, oc, fs, t, rfl, c1, c2, c3⟩ ?_
  rw [hb]
  refine wpAny_pure (wpAny_newFunctionEnv_cells Sc.kind hkind fun env he s1 x => ?_)
  subst he
  refine ⟨lim.keeps x.toInCall.keep, ?_⟩
  obtain ⟨t, ht, hq⟩ := hbody (hr.deeper _)
  have J : Inv (cxOf CX0 P w K mg base N nm scope f (.ref cc) A outer s H E) [] (L2.start N vs) H s1 := inv_start Sc hr.hd e0 hl r x
  refine PySem.W.kla_codeExpr (wpAny_mono (ht.run [] s1 (L2.start N vs) H _ J hq) (fun u s' hs => ?_) fun e s' hs => hs)
  obtain ⟨v, H', J', rv, q⟩ := hs
  exact ⟨v, H', J'.os, J'.bare, J'.base, J'.hok, rv, q⟩
end D

set_option Elab.async false
set_option linter.all false
set_option maxRecDepth 100000
set_option maxHeartbeats 2000000
set_option autoImplicit false
/-! De3: a def that calls a lambda that it is handed, in a try. -/
namespace D
open PySem PySem.Spec PyProof.Rows L2
/-- what is wanted behind a call that hands back d -/
def Back (K : PySem.W.Frag) (tb : Tbs) (G H : Hp) (d : PyData) (Q : VK) : Prop := ∀ v G' H', (∀ q ∈ tb, TabX G' H' q) → Ex G G' → New G G' H → Ex G' H' → Ex H H' → (∀ a, H' a = none → H a = none) → Rp K G' v d → Q v H'
/-- what the def makes of the lambda's reading: an error of pre becomes the answer; without one it hands back v0 -/
def TTd (K : PySem.W.Frag) (tb : Tbs) (pre : Value → Fo → PyData → Prop) (v0 : V) (tl : XK → Hp → VK → Prop) (H : Hp) (Q : VK) : Prop :=
  tl (fun cls d H' => ∃ G fo z, pre cls fo z ∧ (∀ q ∈ tb, TabX G H' q) ∧ Ex G H' ∧ XcOk K G d fo ∧ Back K tb G H' z Q) H (fun _ H' => Q v0 H')
/-- the def at g calls what it got (a call of it: the errors' wish at the def's own slots) and makes TT of it -/
def Gives (X : Cx) (Ng : List Str) (x : Str) (sg : Scope) (g : Addr) (cdg : Value) (bg : List Stmt) (a : Str) (q : Str) (TT : (XK → Hp → VK → Prop) → Hp → VK → Prop) : Prop :=
  ∀ (f c' : Addr) (s : Shared) (H : Hp) (Q : VK) (tl : XK → Hp → VK → Prop), Room 1 (X.A.deeper (envOfC x sg s.heap.objs.size g cdg)) →
    (∀ (W : WX) (pn : List (Addr × Obj)) (xe : Value → Shared → Prop) (E : XK) (p1 p2 : Pos), Takes ((cxOf C8.CX0 X.prog X.w X.K X.mg X.base Ng x sg g cdg X.A X.stack s H C8.E0).tr pn xe) W →
      PE ((cxOf C8.CX0 X.prog X.w X.K X.mg X.base Ng x sg g cdg X.A X.stack s H C8.E0).tr pn xe) (.Call (.Name a p1) [] [] p2) (fun σZ HZ Q => σZ[0]? = some (some (.ref f)) ∧ (∀ cls d H', E cls d H' → W cls d σZ H') ∧ HZ c' = some (LamX.CodeO c' q) ∧ tl E HZ Q)) →
    H c' = some (LamX.CodeO c' q) → TT tl H Q →
    ∃ t, PSs (cxOf C8.CX0 X.prog X.w X.K X.mg X.base Ng x sg g cdg X.A X.stack s H C8.E0).nox bg t ∧ t { nx := fun _ H' => Q .non H', rt := Q } (L2.start Ng [.ref f]) H
section
variable {X : Cx} {pins : List (Addr × Obj)} {σ : L2.St} {H : Hp} {s : Shared}
/-- a(), in the def that got the lambda -/
theorem pe_act2 {CXg : CXT} {Eg : XK} {Ng : List Str} {qg : Str} {sg : Scope} {g f c' : Addr} {cdg pm ctv : Value} {params : Arguments} {body : Expr} {scope : Scope} {k i : Nat} {a : Str} {pn : List (Addr × Obj)} {xe : Value → Shared → Prop} {W : WX} {E : XK} {tb : TE} {p1 p2 : Pos}
    (I : Inv X pins σ H s) (L : LamX.LamS X.env.scope scope) (hf : s.heap.get? f = some (PySem.W.kla_obj "<lambda>" (X.env.qual ++ "<lambda>") params body scope (cloFrom X.env.cells scope.names []) pm c' ctv)) (hfn : H f = none) (hfr : f ∉ frs X.stack)
    (hbind : bindArgs (PySem.W.kla_fn "<lambda>" (X.env.qual ++ "<lambda>") params body scope (cloFrom X.env.cells scope.names []) pm (.ref c') ctv) ⟨[], []⟩ = pure [])
    (tk : Takes ((cxOf CXg X.prog X.w X.K X.mg X.base Ng qg sg g cdg X.A X.stack s H Eg).tr pn xe) W) (hr : Room (k + 1) (X.A.deeper (envOfC qg sg s.heap.objs.size g cdg)))
    (hbody : ∀ (A : Around) (outer : List Env) (s : Shared) (H : Hp), Room k (A.deeper (LamX.lamEnv X scope s.heap.objs.size f c')) → PE (LamX.lamCx X A outer s H E scope f c') body tb)
    (hN : Ng[i]? = some a) (hv : Vis sg a) (hd : (a == ("__debug__" : Str)) = false) (hcd : (a == ("__classdict__" : Str)) = false) :
    PE ((cxOf CXg X.prog X.w X.K X.mg X.base Ng qg sg g cdg X.A X.stack s H Eg).tr pn xe) (.Call (.Name a p1) [] [] p2)
      (fun σZ HZ Q => σZ[i]? = some (some (.ref f)) ∧ (∀ cls d H', E cls d H' → W cls d σZ H') ∧ HZ c' = some (LamX.CodeO c' (X.env.qual ++ "<lambda>")) ∧ tb σ HZ Q) := by
  refine ⟨fun pinsZ sZ σZ HZ Q IZ ⟨hslot, hW, hcode, hread⟩ => ?_⟩
  refine wpAny_Call_Name_kw (thn ((pe_var (pos := p1) (i := i) hN hv hd hcd).run pinsZ sZ σZ HZ (fun v H1 => v = .ref f ∧ H1 = HZ) IZ ⟨.ref f, hslot, rfl, rfl⟩) fun u s1 hh => ?_)
  obtain ⟨v, H1, I1, r1, ev, eH⟩ := hh
  subst ev
  rw [eH] at I1
  obtain rfl : u = Value.ref f := r1
  have there : s1.heap.get? f = some (PySem.W.kla_obj "<lambda>" (X.env.qual ++ "<lambda>") params body scope (cloFrom X.env.cells scope.names []) pm c' ctv) := I1.base.keep f _ hf hfn hfr (fun z => nomatch (show f ∈ ([] : List Addr) from z))
  refine PySem.W.callWith_F0 ⟨_, _, _, _, there⟩ ?_
  obtain ⟨⟨oc, vs, t, hoc, hdc, hvc⟩, _, _⟩ := I1.hok c' _ hcode
  have ran : codeAny (model X.prog X.w) (X.A.deeper (envOfC qg sg s.heap.objs.size g cdg)) (.call (.ref f) ⟨[], []⟩) (CR (L2.CX X.prog X.w) (envOfC qg sg s.heap.objs.size g cdg :: X.stack) X.prog X.w HZ s1 Q E) s1 := by
    refine PySem.W.kla_callFunE hr.depth there rfl L.co L.gen rfl ⟨c', oc, vs, t, rfl, hoc, hdc, hvc⟩ ?_
    rw [hbind]
    refine wpAny_pure (wpAny_newFunctionEnv (fun y hy => (L.own y hy).2) (fun y hy => absurd hy (by simp)) (fun h₁ hns hsb => ⟨I1.nolimit.fresh _ hsb, ?_⟩) L.kind)
    show codeAny _ _ (.expr body (LamX.lamEnv X scope s1.heap.objs.size f c')) _ _
    have kp : ∀ b o, s1.heap.get? b = some o → h₁.get? b = some o := fun b o e => hsb.extBut b o (Nat.ne_of_lt (Heap.lt_size e)) (Heap.get?_push_of_some _ e)
    have J : Inv (LamX.lamCx X (X.A.deeper (envOfC qg sg s.heap.objs.size g cdg)) (envOfC qg sg s.heap.objs.size g cdg :: X.stack) s1 HZ E scope f c') [] σ HZ { s1 with heap := h₁, toks := s1.toks + ([] : List (Str × Value)).length } :=
      LamX.lam_start2 I L I1.env0 hr.hd I1.base hns kp
    refine PySem.W.kla_codeExpr (wpAny_mono ((hbody _ _ s1 HZ (hr.deeper _)).run [] _ _ HZ Q J hread) (fun v s' hq => ?_) fun e s' hq => hq)
    obtain ⟨w', H', J', rv, q⟩ := hq
    exact ⟨w', H', J'.os, J'.bare, J'.base, J'.hok, rv, q⟩
  refine wpAny_call (codeAny_mono ran fun r s' hq => ?_)
  cases r with
  | error e => exact tk e s' (XE.of_call I1 (fun cls d H' h => hW cls d H' h) hq)
  | ok fl =>
    cases fl with
    | ret u => exact I1.after hq
    | next => exact False.elim hq
    | brk => exact False.elim hq
    | cont => exact False.elim hq
end
/-- the def named x calls the lambda that it gets, and does so -/
structure Gv (P : Program) (w : World) (K : PySem.W.Frag) (mg : Str → Option Value) (tb : Tbs) (x a : Str) (pre : Value → Fo → PyData → Prop) (v0 : V) : Prop where
  ex : ∃ (g : Addr) (pg : Arguments) (bg : List Stmt) (sg : Scope) (dV kV doc pm cdv ct oc : Value) (an od : Option Addr) (osl : Array (Option Value)) (Ng : List Str),
    mg x = some (.ref g) ∧ PySem.W.keepIn K (.ref g) = true ∧ K.lookup g = some ⟨oc, od, .func (PySem.W.fnOf x x pg bg sg dV kV doc pm an cdv ct), osl⟩ ∧ PySem.W.codeIn K cdv x = true ∧ L2.Binds K (PySem.W.fnOf x x pg bg sg dV kV doc pm an cdv ct) [a] [] ∧
      FnScope Ng [a] sg ∧ Ng[0]? = some a ∧ Vis sg a ∧ ∀ (X : Cx) (q : Str), X.prog = P → X.w = w → X.K = K → X.mg = mg → Gives X Ng x sg g cdv bg a q (TTd K tb pre v0)
section
variable {X : Cx} {tb : Tbs} {b : Bx tb} {S S1 : List Sl} {x a nm : Str} {c P : Addr} {k : Nat} {pre : Value → Fo → PyData → Prop} {v0 : V} {z0 z : PyData} {params : Arguments} {body : Expr} {scope : Scope} {p lpos pos : Pos} {cls : Value} {fo : Fo} {d : PyData}
/-- the lambda is made, handed on and called -/
theorem pe_told {TT : (XK → Hp → VK → Prop) → Hp → VK → Prop} {g : Addr} {pg : Arguments} {bg : List Stmt} {sg : Scope} {dV kV doc pm cdv ct oc : Value} {an od : Option Addr} {osl : Array (Option Value)} {Ng : List Str} {t : XK → TE}
    (hg : Gl X x) (hm : X.mg x = some (.ref g)) (hk : PySem.W.keepIn X.K (.ref g) = true)
    (lk : X.K.lookup g = some ⟨oc, od, .func (PySem.W.fnOf x x pg bg sg dV kV doc pm an cdv ct), osl⟩) (hcg : PySem.W.codeIn X.K cdv x = true) (hb : L2.Binds X.K (PySem.W.fnOf x x pg bg sg dV kV doc pm an cdv ct) [a] []) (Sg : FnScope Ng [a] sg) (hNg : Ng[0]? = some a) (hva : Vis sg a)
    (hG : Gives X Ng x sg g cdv bg a nm TT) (t1 : TbN X.base X.mg tb X.env.code c P nm) (hnm : nm = X.env.qual ++ "<lambda>") (hne : nm ≠ "") (hr : Room (k + 2) X.A) (L : LamX.LamS X.env.scope scope) (hdef : defaultsOf params X.env = ([], []))
    (hbind : ∀ (q : Str) (cl : List (Str × Addr)) (pm cv ctv : Value), bindArgs (PySem.W.kla_fn "<lambda>" q params body scope cl pm cv ctv) ⟨[], []⟩ = pure [])
    (hbody : ∀ (A : Around) (outer : List Env) (s : Shared) (H : Hp) (E : XK) (f c' : Addr), Room k (A.deeper (LamX.lamEnv X scope s.heap.objs.size f c')) → PE (LamX.lamCx X A outer s H E scope f c') body (t E))
    (hdb : (x == ("__debug__" : Str)) = false) (hd : (a == ("__debug__" : Str)) = false) (hcd : (a == ("__classdict__" : Str)) = false) :
    PE X (.Call (.Name x p) [.Lambda params body scope lpos] [] pos) (fun σ H Q => LamX.TabS H P nm ∧ ∀ (cc : Addr) (H1 : Hp), LamH P cc nm lpos H H1 → H1 cc = some (LamX.CodeO cc nm) → TT (fun E H' Q' => t E σ H' Q') H1 Q) := by
  refine ⟨fun pins s σ H Q I h => ?_⟩
  obtain ⟨hT, h⟩ := h
  refine wpAny_Call_Name_kw (ld_glob I hg hm ?_ hdb)
  refine PySem.W.callWith_K (h₀ := X.base) I.ok.mod.kin hk ?_ (by rfl) (by rfl)
  show wpAny _ _ (spliced ((false, eval (.Lambda params body scope lpos) X.env) :: backTo pos (starEach [] X.env))) _ _ s
  refine Calls.spliced_cons (lam_new I hnm t1.tab t1.cd hT hdef (L.has I.ok) fun f c' pm' ctv H1 s' I1 lh f1 f2 hf hfn hco => ?_)
  refine Calls.spliced_nil ⟨I1.kIn, ?_⟩
  have hfr : f ∉ frs X.stack := fun hm' => by
    rcases List.mem_cons.mp (I.stkSub f hm') with z | z
    · have := I.lt
      rw [← z] at this
      exact absurd (Nat.lt_of_lt_of_le this f1) (Nat.lt_irrefl _)
    · obtain ⟨_, o, ho, _⟩ := I.ok.funs.mem z
      exact absurd (Nat.lt_of_lt_of_le (Heap.lt_size ho) (Nat.le_trans I.sz f1)) (Nat.lt_irrefl _)
  have rc : codeAny (model X.prog X.w) X.A (.call (.ref g) ⟨[.ref f], []⟩) (CR C8.CX0 X.stack X.prog X.w H1 s' Q C8.E0) s' := by
    refine LamX.run_ofS (N := Ng) (ps := [a]) (us := [.ref f]) (vs := [.ref f]) lk hcg Sg hr I1.env0 (hb s' [.ref f] I1.kIn rfl) (.cons rfl .nil) rfl fun hr' => ?_
    obtain ⟨t', ht', hq'⟩ := hG f c' s' H1 Q (fun E H' Q' => t E σ H' Q') (hr'.mono (Nat.succ_le_succ (Nat.zero_le k))) (fun W pn xe E p1 p2 tk => by subst hnm; exact pe_act2 (i := 0) I1 L hf hfn hfr (hbind _ _ _ _ _) tk hr' (fun A outer s H hr2 => hbody A outer s H E f c' hr2) hNg hva hd hcd) hco (h c' H1 lh hco)
    exact ⟨t', ht'.nox, hq'⟩
  refine wpAny_call (codeAny_mono rc fun r s2 hq => ?_)
  cases r with
  | error e => exact (show False from hq).elim
  | ok fl =>
    cases fl with
    | ret u => exact I1.after hq
    | next => exact False.elim hq
    | brk => exact False.elim hq
    | cont => exact False.elim hq
theorem tabS_of {K : PySem.W.Frag} {G H : Hp} {σ : L2.St} (st : StOk K b G H σ S) (hm : (P, nm) ∈ tb) (hne : nm ≠ "") : LamX.TabS H P nm := by
  obtain ⟨⟨ps, k1, k2, k3⟩, k4⟩ := (st.tabs _ hm).l hne
  refine ⟨ps, k4.trans k1, k2, fun p0 cv z => ?_⟩
  obtain ⟨d, z1, z2⟩ := k3 p0 cv z
  exact ⟨d, z1, st.sub.at_ z2 (fun qs => LamX.codeO_ne qs)⟩
/-- x(lambda: body), the body raises -/
theorem E_toldX (T : Gv X.prog X.w X.K X.mg tb x a pre v0) (t1 : TbN X.base X.mg tb X.env.code c P nm) (hnm : nm = X.env.qual ++ "<lambda>") (hne : nm ≠ "") (hr : Room (k + 2) X.A) (L : LamX.LamS X.env.scope scope) (hdef : defaultsOf params X.env = ([], []))
    (hbind : ∀ (q : Str) (cl : List (Str × Addr)) (pm cv ctv : Value), bindArgs (PySem.W.kla_fn "<lambda>" q params body scope cl pm cv ctv) ⟨[], []⟩ = pure [])
    (hbody : ∀ (A : Around) (outer : List Env) (s : Shared) (H : Hp) (E : XK) (f c' : Addr) (b' : Bx tb), Takes (LamX.lamCx X A outer s H E scope f c') b'.W → Room k (A.deeper (LamX.lamEnv X scope s.heap.objs.size f c')) → EX (LamX.lamCx X A outer s H E scope f c') b' S body cls fo S1)
    (hp : pre cls fo z) (hg : Gl X x := by rfl) (hdb : (x == ("__debug__" : Str)) = false := by decide) (hd : (a == ("__debug__" : Str)) = false := by decide) (hcd : (a == ("__classdict__" : Str)) = false := by decide) :
    E X b S (.Call (.Name x p) [.Lambda params body scope lpos] [] pos) (.val z) S1 := by
  obtain ⟨g, pg, bg, sg, dV, kV, doc, pm, cdv, ct, oc, an, od, osl, Ng, hm, hk, lk, hcg, hb, Sg, hNg, hva, hG⟩ := T.ex
  refine PE.w (pe_told (t := fun E => tX X.K (b.re (fun cls d _ H => E cls d H)) S cls fo S1) hg hm hk lk hcg hb Sg hNg hva (hG X nm rfl rfl rfl rfl) t1 hnm hne hr L hdef hbind (fun A outer s H E f c' hr' => hbody A outer s H E f c' _ (takes_of rfl rfl rfl rfl) hr') hdb hd hcd) fun σ H Q ⟨G, st, q⟩ => ?_
  refine ⟨tabS_of st t1.mem hne, fun cc H1 lh hcc => ?_⟩
  obtain ⟨G1, st1, x1⟩ := st.lam t1.mem t1.un hne lh
  refine ⟨G1, st1.re _, fun d G2 H2 st2 x2 xo => ?_⟩
  have st2' : StOk X.K b G2 H2 σ S1 := st2.unre
  exact ⟨G2, fo, z, hp, st2'.tabs, st2'.sub, xo, fun v G' H' y0 y1 y2 y3 y4 y5 rv => q v G' H' (st2'.called y0 y1 y2 y3 y4 y5) (x1.trans (x2.trans y1)) rv⟩
/-- x(lambda: body), the body raises nothing -/
theorem E_told (T : Gv X.prog X.w X.K X.mg tb x a pre v0) (t1 : TbN X.base X.mg tb X.env.code c P nm) (hnm : nm = X.env.qual ++ "<lambda>") (hne : nm ≠ "") (hr : Room (k + 2) X.A) (L : LamX.LamS X.env.scope scope) (hdef : defaultsOf params X.env = ([], []))
    (hbind : ∀ (q : Str) (cl : List (Str × Addr)) (pm cv ctv : Value), bindArgs (PySem.W.kla_fn "<lambda>" q params body scope cl pm cv ctv) ⟨[], []⟩ = pure [])
    {r : Rs} (hbody : ∀ (A : Around) (outer : List Env) (s : Shared) (H : Hp) (E' : XK) (f c' : Addr) (b' : Bx tb), Room k (A.deeper (LamX.lamEnv X scope s.heap.objs.size f c')) → E (LamX.lamCx X A outer s H E' scope f c') b' S body r S1)
    (hz0 : ∀ G, Rp X.K G v0 z0) (hg : Gl X x := by rfl) (hdb : (x == ("__debug__" : Str)) = false := by decide) (hd : (a == ("__debug__" : Str)) = false := by decide) (hcd : (a == ("__classdict__" : Str)) = false := by decide) :
    E X b S (.Call (.Name x p) [.Lambda params body scope lpos] [] pos) (.val z0) S1 := by
  obtain ⟨g, pg, bg, sg, dV, kV, doc, pm, cdv, ct, oc, an, od, osl, Ng, hm, hk, lk, hcg, hb, Sg, hNg, hva, hG⟩ := T.ex
  refine PE.w (pe_told (t := fun _ => tE X.K b S r S1) hg hm hk lk hcg hb Sg hNg hva (hG X nm rfl rfl rfl rfl) t1 hnm hne hr L hdef hbind (fun A outer s H E f c' hr' => hbody A outer s H E f c' b hr') hdb hd hcd) fun σ H Q ⟨G, st, q⟩ => ?_
  refine ⟨tabS_of st t1.mem hne, fun cc H1 lh hcc => ?_⟩
  obtain ⟨G1, st1, x1⟩ := st.lam t1.mem t1.un hne lh
  exact ⟨G1, st1, fun v G2 H2 st2 x2 rv => q v0 G2 H2 st2 (x1.trans x2) (hz0 G2)⟩
end
/-! ### try: a() / except xw as n: suite; return None -/
section
variable {K : PySem.W.Frag} {tb : Tbs} {G H : Hp}
theorem st_here {W : WX} {σ : L2.St} {S : List Sl} (ht : ∀ q ∈ tb, TabX G H q) (x : Ex G H) (hl : σ.length = S.length) (h : ∀ (i : Nat) (s : Sl), S[i]? = some s → s = .emp ∨ ∃ a d fo, s = .exc a d fo ∧ σ[i]? = some (some (.ref a)) ∧ XcOk K G d fo) : StOk K (⟨H, G, H, W⟩ : Bx tb) G H σ S where
  sub := x
  base := Ex.refl H
  g0 := Ex.refl G
  nw := fun _ h => h
  gn := fun a h => .inl h
  tabs := ht
  len := hl
  at_ := fun i s e => by
    have hi : i < σ.length := by rw [hl]; exact (List.getElem?_eq_some_iff.mp e).1
    rcases h i s e with rfl | ⟨a, d, fo, rfl, h1, h2⟩
    · exact ⟨_, List.getElem?_eq_getElem hi, trivial⟩
    · exact ⟨_, h1, rfl, h2⟩
  sep := fun i j p w1 w2 => by
    exfalso
    obtain ⟨⟨s, e, hs⟩, _⟩ := w1
    rcases h i s e with rfl | ⟨a, d, fo, rfl, _⟩ <;> cases hs
end
theorem gives_tryAs {X : Cx} {tb : Tbs} {Ng : List Str} {x a q xw n : Str} {sg : Scope} {g : Addr} {cdg : Value} {i : Nat} {c : Value} {pre : Value → Fo → PyData → Prop} {p1 p2 p3 p5 p6 np pos' pos : Pos} {b₀ : Stmt} {suite : List Stmt} {jn : Nat}
    (hN : Ng.Nodup) (hi : Ng[i]? = some n) (hi0 : i ≠ 0) (hln : sg.names.lookup n = some .local) (hgl : sg.names.lookup xw = some .globalImplicit) (hmx : X.mg xw = some c) (hdx : (xw == ("__debug__" : Str)) = false) (h0 : ∀ f : Addr, (L2.start Ng [V.ref f]) = some (V.ref f) :: List.replicate (Ng.length - 1) none) (hNl : 1 ≤ Ng.length)
    (hex : ∀ cls fo z, pre cls fo z → PySem.W.exmOne X.K cls c = some true)
    (hsu : ∀ (s : Shared) (H : Hp) (e : Addr) (oe : Obj) (cls : Value) (d : Option Addr) (fo : Fo) (z : PyData) (pn : List (Addr × Obj)) (b : Bx tb), Room 1 (X.A.deeper (envOfC x sg s.heap.objs.size g cdg)) → pre cls fo z → Zc cls d oe → (∃ vs, oe.data = .fields vs) →
      SS ((cxOf C8.CX0 X.prog X.w X.K X.mg X.base Ng x sg g cdg X.A X.stack s H C8.E0).nox.suite e ((e, oe) :: pn)) b ((List.replicate Ng.length Sl.emp).set i (.exc e d fo)) (b₀ :: suite) { nx := fun _ => False, rt := fun d' _ => d' = z }) :
    Gives X Ng x sg g cdg [.Try [.Expr (.Call (.Name a p1) [] [] p2) p3] [.ExceptHandler (some (.Name xw np)) (some n) (b₀ :: suite) pos'] [] [] pos, .Return (some (.Constant .none jn p5)) p6] a q (TTd X.K tb pre .non) := by
  intro f c' s H Q tl hr0 act hc h
  have hgl' : Gl (cxOf C8.CX0 X.prog X.w X.K X.mg X.base Ng x sg g cdg X.A X.stack s H C8.E0).nox xw := hgl
  refine ⟨_, pss_cons (ps_try_as (X := (cxOf C8.CX0 X.prog X.w X.K X.mg X.base Ng x sg g cdg X.A X.stack s H C8.E0).nox) (i := i) (c := c)
      (tb := fun W D σ H => ∃ Ech : XK, (∀ cls d H', Ech cls d H' → W cls d σ H') ∧ σ[0]? = some (some (.ref f)) ∧ H c' = some (LamX.CodeO c' q) ∧ tl Ech H fun v H' => D.nx σ H')
      (ts := fun e cls d D σ H => ∃ G fo z, pre cls fo z ∧ tS X.K (⟨H, G, H, W0⟩ : Bx tb) ((List.replicate Ng.length Sl.emp).set i (.exc e d fo)) { nx := fun _ => False, rt := fun d' _ => d' = z } D σ H)
      rfl rfl hN hi hln ⟨hgl', hdx, .inl hmx⟩ LamX.takes0 (fun W pn xe tk _ => ?_) (fun e oe cls d pn hz hv => ?_)) (pss_one (ps_ret pe_non)), ?_⟩
  · refine ⟨fun pins s' σ H' D I h' => ?_⟩
    obtain ⟨Ech, hW, h1, h2, h3⟩ := h'
    exact (pss_one (ps_expr (pos := p3) (act W pn xe Ech p1 p2 tk) rfl)).run pins s' σ H' D I ⟨h1, hW, h2, h3⟩
  · exact ⟨fun pins s' σ H' D I ⟨G, fo, z, hp, q⟩ => (hsu s H e oe cls d fo z pn _ hr0 hp hz hv).run pins s' σ H' D I q⟩
  · have hs0 := h0 f
    have hil : i < Ng.length := (List.getElem?_eq_some_iff.mp hi).1
    have hlen : (L2.start Ng [V.ref f]).length = Ng.length := by rw [hs0]; simp; omega
    refine ⟨fun cls d H' => ∃ G fo z, pre cls fo z ∧ (∀ q ∈ tb, TabX G H' q) ∧ Ex G H' ∧ XcOk X.K G d fo ∧ Back X.K tb G H' z Q, fun cls d H' hh => ?_, by rw [hs0]; rfl, hc, h⟩
    obtain ⟨G, fo, z, hp, ht, x, xo, hb⟩ := hh
    refine ⟨true, hex cls fo z hp, fun _ e he => ⟨G, fo, z, hp, G, st_here ht x (by rw [List.length_set, List.length_set, hlen, List.length_replicate]) (fun j sl hj => ?_), ?_, ?_, ?_, ?_, ?_⟩, fun z => by cases z⟩
    · rcases get_set hj with ⟨h1, h2, h3⟩ | ⟨h1, h2⟩
      · subst h1
        exact .inr ⟨e, d, fo, h2, set_at (by rw [hlen]; exact hil), xo⟩
      · rw [List.getElem?_replicate] at h2
        split at h2
        · cases h2; exact .inl rfl
        · cases h2
    · exact fun _ _ _ _ _ _ z => z.elim
    · intro v G2 H2 σ2 S2 d2 st2 x2 rv hd
      have hd' : d2 = z := hd
      subst hd'
      exact hb v G2 H2 st2.tabs st2.g0 st2.gn st2.sub st2.base st2.nw rv
    · exact fun _ _ _ _ _ _ z => z.elim
    · exact fun _ _ _ _ _ _ z => z.elim
    · exact fun _ _ _ _ _ _ _ _ _ _ z => z.elim
end D

set_option Elab.async false
set_option linter.all false
set_option maxRecDepth 100000
set_option maxHeartbeats 1000000
set_option autoImplicit false
/-! what is refused -/
namespace Q
open PySem PySem.Spec PyProof.Rows L2 D
def okW (xs : List PyData) (i : Nat) : Prop := ∃ y : Int, xs[i]? = some (.int y) ∧ 1 ≤ y ∧ y ≤ 1000 ∧ (0 < i → ∃ x : Int, xs[i - 1]? = some (.int x) ∧ x ≤ y)
def badW (xs : List PyData) (i : Nat) : Prop := ∃ w, xs[i]? = some w ∧ (numD w 1 1000 = false ∨ ∃ x y : Int, 0 < i ∧ w = .int y ∧ xs[i - 1]? = some (.int x) ∧ y < x)
/-- v is no box, idx tells where -/
def BoxBad (v idx : PyData) : Prop := (isD v "tuple" = false ∧ idx = .none) ∨ (∃ xs, v = .tuple xs ∧ (xs.length = 0 ∨ 10 < xs.length) ∧ idx = .none) ∨ ∃ xs i, v = .tuple xs ∧ 1 ≤ xs.length ∧ xs.length ≤ 10 ∧ (∀ j, j < i → okW xs j) ∧ badW xs i ∧ idx = .int (i : Nat)
section
variable {P : Program} {w : World} {K : PySem.W.Frag} {tb : Tbs} {mg : Str → Option Value} {base : Heap} {f : Addr} {fd : FuncData}
variable {cBadBox cBadNumber cBadLoss : Addr}

/-! BadBox -/
abbrev m_BadBox : Stmt := inClass (topS 3) 0
theorem sm_BadBox : FnScope ["self", "index"] ["self", "index"] (defScope m_BadBox) := ⟨rfl, rfl, rfl, by decide +kernel, rfl, by decide +kernel, by decide +kernel⟩
theorem ini_BadBox (F : Fun K "__init__" "BadBox.__init__" m_BadBox f fd) {C : Addr} : FnOk P w K mg base CX0 1 f fd ["self", "index"] (spIni K C "index") := ini_mk F sm_BadBox rfl (.inl rfl) (.inl rfl) (by decide) (by decide)

/-! need_number -/
def preNeedNumX (ds : List PyData) (nm : Str) (fo : Fo) : Prop := ∃ v lo hi, ds = [v, .int lo, .int hi] ∧ numD v lo hi = false ∧ nm = "BadNumber" ∧ fo = none
theorem okX_need_number (F : Fun K "need_number" "need_number" s_need_number f fd) (hm : mg "need_number" = some (.ref f)) (xBadNumber : Xc0 K mg "BadNumber" cBadNumber) (F_is_number : Fd P w K mg base 1 "is_number" ["value", "low", "high"] (spV K tb preNum)) : FdX P w K mg base 2 "need_number" ["value", "low", "high"] (spX K mg tb preNeedNumX) := by
  refine fd_mkX F sc_need_number hm (fun _ _ _ _ _ _ us hl => match us, hl with | [_, _, _], _ => rfl) (fun ds nm fo ⟨_, _, _, h, _⟩ => by rw [h]; rfl) fun cdv A outer s H E b ds nm fo hr tk po hp => ?_
  obtain ⟨v, lo, hi, rfl, hv, rfl, rfl⟩ := hp
  exact B_ifR (c := true) (T_to (T_not (T_val (E_call F_is_number hr rfl (A_cons (E_name 0 rfl (pv 0)) (A_cons (E_name 1 rfl (pv 1)) (A_cons (E_name 2 rfl (pv 2)) A_nil))) ⟨_, _, _, rfl, rfl⟩))) (by rw [hv]; rfl)) (fun _ => B_raise rfl tk (MX_own0 xBadNumber rfl) ⟨xBadNumber.g, rfl⟩) (fun hc => by cases hc)

/-! need_box -/
def preNeedBoxX (ds : List PyData) (nm : Str) (fo : Fo) : Prop := ∃ v idx, ds = [v] ∧ BoxBad v idx ∧ nm = "BadBox" ∧ fo = some (("index" : Str), idx)
theorem okX_need_box (F : Fun K "need_box" "need_box" s_need_box f fd) (hm : mg "need_box" = some (.ref f)) (B : Bt mg) (C : Ct mg) (xBadBox : Xc1 K mg "BadBox" "index" cBadBox) (iBadBox : Xi P w K mg base cBadBox "index") (F_is_number : Fd P w K mg base 1 "is_number" ["value", "low", "high"] (spV K tb preNum)) : FdX P w K mg base 3 "need_box" ["value"] (spX K mg tb preNeedBoxX) := by
  refine fd_mkX F sc_need_box hm (fun _ _ _ _ _ _ us hl => match us, hl with | [_], _ => rfl) (fun ds nm fo ⟨_, _, h, _⟩ => by rw [h]; rfl) fun cdv A outer s H E b ds nm fo hr tk po hp => ?_
  obtain ⟨v, idx, rfl, hb, rfl, rfl⟩ := hp
  rcases hb with ⟨ht, rfl⟩ | ⟨xs, rfl, hl, rfl⟩ | ⟨xs, i, rfl, l1, l2, hok, hbad, rfl⟩
  · exact B_ifR (c := true) (T_to (W.t (W_or (c2 := false) (T_not (T_val (E_isi B.isinstance B.tuple (E_name 0 rfl (pv 0)) bb_tuple rfl))) (fun h => by rw [ht] at h; cases h))) (by rw [ht]; rfl)) (fun _ => B_raise rfl tk (MX_fld xBadBox iBadBox hr rfl E_none) ⟨xBadBox.g, rfl⟩) (fun hc => by cases hc)
  · have e : (decide ((1 : Int) ≤ (xs.length : Nat)) && decide (((xs.length : Nat) : Int) ≤ (10 : Int))) = false := by
      rcases hl with h | h
      · rw [decide_eq_false (by omega)]; rfl
      · rw [decide_eq_false (by omega : ¬ ((xs.length : Nat) : Int) ≤ 10), Bool.and_false]
    exact B_ifR (c := true) (T_to (W.t (W_or (T_not (T_val (E_isi B.isinstance B.tuple (E_name 0 rfl (pv 0)) bb_tuple rfl))) (fun _ => (W_or1 (T_not (T_lele E_int (E_len (k := xs.length) B.len (E_name 0 rfl (pv 0)) rfl) (fun _ => (E_glob C.MOST_WEIGHTS)))))))) (by rw [e]; rfl)) (fun _ => B_raise rfl tk (MX_fld xBadBox iBadBox hr rfl E_none) ⟨xBadBox.g, rfl⟩) (fun hc => by cases hc)
  · have e : (decide ((1 : Int) ≤ (xs.length : Nat)) && decide (((xs.length : Nat) : Int) ≤ (10 : Int))) = true := by rw [decide_eq_true (by omega), decide_eq_true (by omega)]; rfl
    have hlt : i < xs.length := by
      obtain ⟨w, h, _⟩ := hbad
      exact (List.getElem?_eq_some_iff.mp h).1
    refine B_ifR (c := false) (T_to (W.t (W_or (T_not (T_val (E_isi B.isinstance B.tuple (E_name 0 rfl (pv 0)) bb_tuple rfl))) (fun _ => (W_or1 (T_not (T_lele E_int (E_len (k := xs.length) B.len (E_name 0 rfl (pv 0)) rfl) (fun _ => (E_glob C.MOST_WEIGHTS)))))))) (by rw [e]; rfl)) (fun hc => by cases hc) (fun _ => ?_)
    refine B_then (Mid := fun _ => False) (B_for (xs := xs.zipIdx) (enc := fun q => PyData.tuple [.int (q.2 : Int), q.1]) (F := fun q S => (S.set 1 (.val (.int (q.2 : Int)))).set 2 (.val q.1)) (fun k S' => k ≤ i ∧ ∃ v1 v2, S' = [.val (.tuple xs), v1, v2]) po rfl (I_enumT B.enumerate (E_name 0 rfl (pv 0))) (pg_tup rfl (pgs_cons (pg_name (i := 1) sc_need_box.nd rfl (Or.inl rfl)) (pgs_cons (pg_name (i := 2) sc_need_box.nd rfl (Or.inl rfl)) pgs_nil))) (fun x hx => (g_tup (g_cons g_name (g_cons g_name g_nil)))) ⟨Nat.zero_le _, _, _, rfl⟩ (fun k x S' hx hI => ?_) (fun S' h => ?_)) (fun S' h => h.elim)
    · obtain ⟨hk, v1, v2, rfl⟩ := hI
      obtain ⟨y, j⟩ := x
      obtain ⟨rfl, hx⟩ : j = k ∧ xs[k]? = some y := by
        rw [List.getElem?_zipIdx] at hx
        cases e : xs[k]? with
        | none => rw [e] at hx; cases hx
        | some y =>
          rw [e] at hx
          simp only [Option.map_some, Option.some.injEq, Prod.mk.injEq] at hx
          exact ⟨by omega, by rw [hx.1]⟩
      have r1 : Room 1 _ := hr.mono (by decide : 1 ≤ 2)
      rcases Nat.lt_or_eq_of_le hk with hj | rfl
      · obtain ⟨yi, hy, y1, y2, hp⟩ := hok j hj
        rw [hx] at hy
        cases hy
        have e1 : numD (.int yi) 1 1000 = true := by simp [numD]; omega
        by_cases h0 : 0 < j
        · obtain ⟨xi, hxi, hle⟩ := hp h0
          refine B_ifR (c := false) (T_to (W.t (W_or (T_not (T_val (E_call F_is_number r1 rfl (A_cons (E_name 2 rfl (pv 2)) (A_cons E_int (A_cons (E_glob C.MOST_WEIGHT) A_nil))) ⟨_, _, _, rfl, rfl⟩))) (fun _ => (W_or1 (W.t (W_and ((T_gt (E_name 1 rfl (pv 1)) E_int)) (fun _ => (W_and1 ((T_lt (i := yi) (j := xi) (E_name 2 rfl (pv 2)) (E_ixT (xs := xs) (d := .int xi) (E_name 0 rfl (pv 0)) (E_sub (E_name 1 rfl (pv 1)) E_int) (by rw [show ((j : Int) - 1) = ((j - 1 : Nat) : Int) by omega]; exact atI_get hxi)))))))))))) (by rw [e1, decide_eq_false (by omega : ¬ yi < xi)]; simp)) (fun hc => by cases hc) (fun _ => B_nil ⟨hj, _, _, rfl⟩)
        · refine B_ifR (c := false) (T_to (W.t (W_or (T_not (T_val (E_call F_is_number r1 rfl (A_cons (E_name 2 rfl (pv 2)) (A_cons E_int (A_cons (E_glob C.MOST_WEIGHT) A_nil))) ⟨_, _, _, rfl, rfl⟩))) (fun _ => (W_or1 (W.t (W_and (c2 := false) ((T_gt (E_name 1 rfl (pv 1)) E_int)) (fun h => absurd (of_decide_eq_true h) (by omega)))))))) (by rw [e1]; simp)) (fun hc => by cases hc) (fun _ => B_nil ⟨hj, _, _, rfl⟩)
      · obtain ⟨w', hw, hb⟩ := hbad
        rw [hx] at hw
        cases hw
        rcases hb with hb | ⟨xi, yi, h0, rfl, hxi, hlt'⟩
        · exact B_ifR (c := true) (T_to (W.t (W_or (c2 := false) (T_not (T_val (E_call F_is_number r1 rfl (A_cons (E_name 2 rfl (pv 2)) (A_cons E_int (A_cons (E_glob C.MOST_WEIGHT) A_nil))) ⟨_, _, _, rfl, rfl⟩))) (fun h => by rw [hb] at h; cases h))) (by rw [hb]; rfl)) (fun _ => B_raise rfl tk (MX_fld xBadBox iBadBox hr rfl (E_name 1 rfl (pv 1))) ⟨xBadBox.g, rfl⟩) (fun hc => by cases hc)
        · exact B_ifR (c := true) (T_to (W.t (W_or (T_not (T_val (E_call F_is_number r1 rfl (A_cons (E_name 2 rfl (pv 2)) (A_cons E_int (A_cons (E_glob C.MOST_WEIGHT) A_nil))) ⟨_, _, _, rfl, rfl⟩))) (fun _ => (W_or1 (W.t (W_and ((T_gt (E_name 1 rfl (pv 1)) E_int)) (fun _ => (W_and1 ((T_lt (i := yi) (j := xi) (E_name 2 rfl (pv 2)) (E_ixT (xs := xs) (d := .int xi) (E_name 0 rfl (pv 0)) (E_sub (E_name 1 rfl (pv 1)) E_int) (by rw [show ((j : Int) - 1) = ((j - 1 : Nat) : Int) by omega]; exact atI_get hxi)))))))))))) (by rw [decide_eq_true hlt', decide_eq_true (by omega : (0 : Int) < (j : Int))]; simp)) (fun _ => B_raise rfl tk (MX_fld xBadBox iBadBox hr rfl (E_name 1 rfl (pv 1))) ⟨xBadBox.g, rfl⟩) (fun hc => by cases hc)
    · rw [List.length_zipIdx] at h
      omega
end
end Q

set_option Elab.async false
set_option linter.all false
set_option maxRecDepth 100000
set_option maxHeartbeats 1000000
set_option autoImplicit false
/-! Dl20: xs[::-1] of a list; a value in a list of any values; list.index; is True, is not True. -/
namespace D
open PySem PySem.Spec PyProof.Rows L2
section
variable {X : Cx} {tb : Tbs} {b : Bx tb} {S S1 S2 S3 : List Sl} {e f : Expr} {pos p p1 p2 p3 : Pos} {n m : Int}
theorem rpa_rev {K : PySem.W.Frag} {G : Hp} : ∀ {vs : List V} {ds : List PyData}, RpA K G vs ds → RpA K G vs.reverse ds.reverse
  | _, _, .nil => .nil
  | _, _, .cons h t => by
    rw [List.reverse_cons, List.reverse_cons]
    exact (rpa_rev t).append (.one h)
theorem E_revL {ds : List PyData} {k : Nat} (he : E X b S e (.val (.list ds)) S1) : E X b S (.Subscript e (.Slice none none (some (.UnaryOp .USub (.Constant (.int 1) k p1) p2)) p3) pos) (.new ds.reverse) S1 :=
  PE.w (pe_revL he) fun σ H Q ⟨G, st, q⟩ => ⟨G, st, fun v G2 H2 st2 x2 r => by
    cases r with
    | @lst a ws _ h3 t =>
      refine ⟨a, ws, rfl, .inl (st2.sub.rd h3), fun p hp => ?_⟩
      have z := st2.newL hp (rpa_rev t)
      exact q _ _ _ z.1 x2 z.2⟩
theorem T_inLD {d : PyData} {ds : List PyData} (hu : X.A.units + 65 < cLine) (ha : E X b S1 e (.val d) S2) (hb : E X b S2 f (.val (.list ds)) S3) (h1 : SeqAt.shaped d = true) (h2 : SeqAt.shaped (.list ds) = true) (hm : behindInMarks .In f = false) : T X b S1 (.Compare e [.In] [f] pos) (ds.any fun z => PyData.eqv z d) S3 :=
  T_cmp (op_inD hu) (fun G H σ v w Q st r1 r2 q => ⟨d, ds, Rp.dp _ (r1.mono st.sub) (SeqAt.canLay_of_shaped h1), Rp.dp _ (r2.mono st.sub) (SeqAt.canLay_of_shaped h2), h1, h2, q _ G H st (Ex.refl G) (.bl _)⟩) hm ha hb
theorem T_niLD {d : PyData} {ds : List PyData} (hu : X.A.units + 65 < cLine) (ha : E X b S1 e (.val d) S2) (hb : E X b S2 f (.val (.list ds)) S3) (h1 : SeqAt.shaped d = true) (h2 : SeqAt.shaped (.list ds) = true) (hm : behindInMarks .NotIn f = false) : T X b S1 (.Compare e [.NotIn] [f] pos) (!ds.any fun z => PyData.eqv z d) S3 :=
  T_cmp (op_notInD hu) (fun G H σ v w Q st r1 r2 q => ⟨d, ds, Rp.dp _ (r1.mono st.sub) (SeqAt.canLay_of_shaped h1), Rp.dp _ (r2.mono st.sub) (SeqAt.canLay_of_shaped h2), h1, h2, q _ G H st (Ex.refl G) (.bl _)⟩) hm ha hb
theorem T_isB {c d : Bool} (ha : E X b S1 e (.val (.bool c)) S2) (hb : E X b S2 f (.val (.bool d)) S3) (hm : behindInMarks .Is f = false) : T X b S1 (.Compare e [.Is] [f] pos) (decide (c = d)) S3 :=
  T_cmp op_isBl (fun G H σ v w Q st r1 r2 q => by cases r1; cases r2; exact ⟨c, d, rfl, rfl, q _ G H st (Ex.refl G) (.bl _)⟩) hm ha hb
theorem T_isnB {c d : Bool} (ha : E X b S1 e (.val (.bool c)) S2) (hb : E X b S2 f (.val (.bool d)) S3) (hm : behindInMarks .IsNot f = false) : T X b S1 (.Compare e [.IsNot] [f] pos) (!decide (c = d)) S3 :=
  T_cmp op_notBl (fun G H σ v w Q st r1 r2 q => by cases r1; cases r2; exact ⟨c, d, rfl, rfl, q _ G H st (Ex.refl G) (.bl _)⟩) hm ha hb
/-- l.index(x) -/
theorem E_idxLD {o : Expr} {pa pc : Pos} {d z : PyData} {ds : List PyData} {j : Nat} (hu : X.A.units + 65 < cLine) (ho : E X b S o (.val (.list ds)) S1) (he : E X b S1 e (.val d) S2) (h1 : SeqAt.shaped (.list ds) = true) (h2 : SeqAt.shaped d = true) (hz : ds[j]? = some z) (hzd : PyData.eqv z d = true) (hno : ∀ (m : Nat) (z' : PyData), m < j → ds[m]? = some z' → PyData.eqv z' d = false)
    (hbase : attributeBase o "index" X.env (eval o X.env) = eval o X.env := by rfl)
    (hfew : ((backTo pc (starEach [e] X.env)).all (fun x => !x.1) && (backToKw pc (keywordEach [] X.env)).all (fun x => x.1.isSome) && decide ([e].length + ([] : List Keyword).length + (if ([] : List Keyword).isEmpty then 0 else 1) < 30)) = true := by rfl)
    (hline : (pa.endLine == pc.line) = true := by rfl) (hst : starEach [e] X.env = (false, eval e X.env) :: starEach [] X.env := by rfl) (hplain : (backTo pc (starEach [] X.env)).any (·.1) = false := by rfl) :
    E X b S (.Call (.Attribute o "index" pa) [e] [] pc) (.val (.int (j : Nat))) S2 :=
  PE.w (pe_bm PySem.F.plainAttrs_list PySem.F.slot_list_index PySem.F.type_list_index (mt_indexD hu) ho (pa_cons he pa_nil hst) hbase hfew hline hst hplain) fun σ H Q ⟨G, st, q⟩ => ⟨G, st, fun v G2 H2 st2 x2 r => by
    cases r with
    | @lst a ws _ h3 t =>
      refine ⟨.inl ⟨rfl, _, .inl (st2.sub.rd h3)⟩, G2, st2, fun w G3 H3 st3 x3 r3 => ?_⟩
      have rl : Rp X.K G3 (.ref a) (.list ds) := Rp.mono x3 (.lst h3 t)
      exact ⟨a, w, d, ds, j, z, rfl, rfl, Rp.dp _ (rl.mono st3.sub) (SeqAt.canLay_of_shaped h1), Rp.dp _ (r3.mono st3.sub) (SeqAt.canLay_of_shaped h2), h1, h2, hz, hzd, hno, q _ G3 H3 st3 (x2.trans x3) (.int _)⟩⟩
end
end D

set_option Elab.async false
set_option linter.all false
set_option maxRecDepth 100000
set_option maxHeartbeats 1000000
set_option autoImplicit false
/-! Dl21: {} as a value. -/
namespace D
open PySem PySem.Spec PyProof.Rows L2
section
variable {X : Cx} {tb : Tbs} {b : Bx tb} {S : List Sl} {pos : Pos}
theorem E_disp0 : E X b S (.Dict [] [] pos) (.val (.dict [])) S :=
  PE.w (pe_lock pe_dnewK) fun σ H Q ⟨G, st, q⟩ => fun a ha => by
    refine ⟨a, _, rfl, upd_same, trivial, fun od => ?_⟩
    rw [upd_twice]
    exact q _ _ _ (st.new ha) (st.newEx ha) (.dic upd_same .nil)
/-- the slots told anew -/
theorem B_norm {rest : List Stmt} {P : Po} (S' : List Sl) (e : S = S') (h : SS X b S' rest P) : SS X b S rest P := e ▸ h
end
end D

set_option Elab.async false
set_option linter.all false
set_option maxRecDepth 100000
set_option maxHeartbeats 1000000
set_option autoImplicit false
/-! Dd: dicts whose keys are ints, of any data. -/
namespace D
open PySem PySem.Spec PyProof.Rows L2
abbrev gDl (kvs : List (Int × PyData)) : List (PyData × PyData) := kvs.map fun p => (.int p.1, p.2)
abbrev gD (kvs : List (Int × PyData)) : PyData := .dict (gDl kvs)
def getG (kvs : List (Int × PyData)) (k : Int) : Option PyData := (kvs.find? fun p => decide (p.1 = k)).map (·.2)
def putG (kvs : List (Int × PyData)) (k : Int) (d : PyData) : List (Int × PyData) := if (kvs.any fun p => decide (p.1 = k)) = true then kvs.map (fun p => if p.1 = k then (p.1, d) else p) else kvs ++ [(k, d)]
def setdG (kvs : List (Int × PyData)) (k : Int) (d : PyData) : List (Int × PyData) := if (getG kvs k).isSome = true then kvs else kvs ++ [(k, d)]
inductive RgK (K : PySem.W.Frag) (G : Hp) : List (Key × V) → List (Int × PyData) → Prop
  | nil : RgK K G [] []
  | cons {k : Int} {v : V} {vs : List (Key × V)} {d : PyData} {kvs : List (Int × PyData)} : Rp K G v d → RgK K G vs kvs → RgK K G ((.inl k, v) :: vs) ((k, d) :: kvs)
section
variable {K : PySem.W.Frag} {G H : Hp}
theorem RpK.toG : ∀ {kvs : List (Int × PyData)} {vs : List (Key × V)}, RpK K G vs (gDl kvs) → RgK K G vs kvs
  | [], vs, h => by
    generalize hd : gDl [] = d at h
    cases h with
    | nil => exact .nil
    | cons h t => cases hd
  | p :: kvs, vs, h => by
    generalize hd : gDl (p :: kvs) = d at h
    cases h with
    | nil => cases hd
    | @cons k v vs d ds h t =>
      have e1 : (PyData.int p.1, p.2) = (keyD k, d) := (List.cons.inj hd).1
      have e2 : gDl kvs = ds := (List.cons.inj hd).2
      have e3 : PyData.int p.1 = keyD k := congrArg Prod.fst e1
      have e4 : p.2 = d := congrArg Prod.snd e1
      subst e2
      subst e4
      have ek : k = .inl p.1 := by
        cases k with
        | inl i => exact congrArg Sum.inl (by injection e3 with e; exact e.symm)
        | inr x => cases e3
      subst ek
      exact .cons h (RpK.toG t)
theorem RgK.rp {kvs : List (Int × PyData)} {vs : List (Key × V)} (h : RgK K G vs kvs) : RpK K G vs (gDl kvs) := by
  induction h with
  | nil => exact .nil
  | @cons k v vs d kvs r _ ih => exact .cons (k := .inl k) r ih
theorem RgK.mono (x : Ex G H) {kvs : List (Int × PyData)} {vs : List (Key × V)} (h : RgK K G vs kvs) : RgK K H vs kvs := by
  induction h with
  | nil => exact .nil
  | cons r _ ih => exact .cons (r.mono x) ih
theorem RgK.length {kvs : List (Int × PyData)} {vs : List (Key × V)} (h : RgK K G vs kvs) : vs.length = kvs.length := by
  induction h with
  | nil => rfl
  | cons _ _ ih => rw [List.length_cons, List.length_cons, ih]
theorem getG_cons (p : Int × PyData) (kvs : List (Int × PyData)) (k : Int) : getG (p :: kvs) k = if p.1 = k then some p.2 else getG kvs k := by
  unfold getG
  by_cases c : p.1 = k
  · rw [List.find?_cons_of_pos (by exact decide_eq_true c), if_pos c]; rfl
  · rw [List.find?_cons_of_neg (by rw [decide_eq_false c]; decide), if_neg c]
theorem RgK.val {kvs : List (Int × PyData)} {vs : List (Key × V)} (h : RgK K G vs kvs) (k : Int) : (getG kvs k = none ∧ valV vs (.inl k) = none) ∨ ∃ d v, getG kvs k = some d ∧ valV vs (.inl k) = some v ∧ Rp K G v d := by
  induction h with
  | nil => exact .inl ⟨rfl, rfl⟩
  | @cons j v vs d kvs r _ ih =>
    rw [getG_cons]
    by_cases c : j = k
    · have e : valV ((.inl j, v) :: vs) (.inl k) = some v := valV_pos (congrArg Sum.inl c)
      rw [if_pos c, e]
      exact .inr ⟨d, v, rfl, rfl, r⟩
    · have e : valV ((.inl j, v) :: vs) (.inl k) = valV vs (.inl k) := valV_neg (fun z => c (by injection z))
      rw [if_neg c, e]
      exact ih
theorem any_keys {k : Int} {kvs : List (Int × PyData)} {vs : List (Key × V)} (h : RgK K G vs kvs) : (vs.any fun p => decide (p.1 = .inl k)) = (kvs.any fun p => decide (p.1 = k)) := by
  induction h with
  | nil => rfl
  | @cons j v vs d kvs r _ ih =>
    rw [List.any_cons, List.any_cons, ih]
    congr 1
    exact decide_eq_decide.mpr ⟨fun z => by injection z, fun z => congrArg Sum.inl z⟩
theorem RgK.app {kvs : List (Int × PyData)} {vs : List (Key × V)} {k : Int} {v : V} {d : PyData} (h : RgK K G vs kvs) (r : Rp K G v d) : RgK K G (vs ++ [(.inl k, v)]) (kvs ++ [(k, d)]) := by
  induction h with
  | nil => exact .cons r .nil
  | cons r1 _ ih => exact .cons r1 ih
theorem RgK.updd (k : Int) {v : V} {d : PyData} (r : Rp K G v d) : ∀ {kvs : List (Int × PyData)} {vs : List (Key × V)}, RgK K G vs kvs → RgK K G (vs.map fun p => if p.1 = .inl k then (p.1, v) else p) (kvs.map fun p => if p.1 = k then (p.1, d) else p)
  | _, _, .nil => .nil
  | _, _, @RgK.cons _ _ j w vs e kvs r1 t => by
    have ih := RgK.updd k r t
    show RgK K G ((if (Sum.inl j : Key) = .inl k then ((Sum.inl j : Key), v) else (Sum.inl j, w)) :: _) ((if j = k then (j, d) else (j, e)) :: _)
    by_cases c : j = k
    · rw [if_pos (congrArg Sum.inl c), if_pos c]
      exact .cons r ih
    · rw [if_neg (fun z => c (by injection z)), if_neg c]
      exact .cons r1 ih
theorem RgK.put {kvs : List (Int × PyData)} {vs : List (Key × V)} {k : Int} {v : V} {d : PyData} (h : RgK K G vs kvs) (r : Rp K G v d) : RgK K G (putK vs (.inl k) v) (putG kvs k d) := by
  unfold putK putG
  rw [any_keys h]
  split
  · exact RgK.updd k r h
  · exact h.app r
theorem RgK.at_ : ∀ {kvs : List (Int × PyData)} {vs : List (Key × V)} {i : Nat} {p : Int × PyData}, RgK K G vs kvs → kvs[i]? = some p → ∃ v, vs[i]? = some (.inl p.1, v) ∧ Rp K G v p.2
  | _, _, _, _, .nil, e => by simp at e
  | _, _, 0, _, .cons r t, e => by simp at e; subst e; exact ⟨_, rfl, r⟩
  | _, _, i + 1, _, .cons r t, e => by
    obtain ⟨v, h1, h2⟩ := RgK.at_ (i := i) t (by simpa using e)
    exact ⟨v, by simpa using h1, h2⟩
theorem Rp.dict {ds : List (PyData × PyData)} {v : V} (hn : ∀ q ∈ ds, q.1 ≠ .none) (h : Rp K G v (.dict ds)) : ∃ a o vs, v = .ref a ∧ G a = some (.frz o (.dK vs)) ∧ RpK K G vs ds := by
  cases h with
  | scr h => exact absurd rfl (hn _ List.mem_cons_self)
  | @dic a o vs ds h t => exact ⟨a, o, vs, rfl, h, t⟩
theorem Rp.gD {kvs : List (Int × PyData)} {v : V} (h : Rp K G v (D.gD kvs)) : ∃ a o vs, v = .ref a ∧ G a = some (.frz o (.dK vs)) ∧ RgK K G vs kvs := by
  generalize hd : D.gD kvs = d at h
  cases h with
  | scr h =>
    exfalso
    cases kvs with
    | nil => cases hd
    | cons p kvs =>
      have := (PyData.dict.inj hd)
      cases (List.cons.inj this).1
  | @dic a o vs ds h t =>
    have e : gDl kvs = ds := PyData.dict.inj hd
    subst e
    exact ⟨a, o, vs, rfl, h, t.toG⟩
  | _ => cases hd
theorem bD_gD (ks : List Int) : bD ks = gD (ks.map fun k => (k, PyData.bool true)) := by
  show PyData.dict _ = PyData.dict _
  rw [bDl, gDl, List.map_map]
  rfl
theorem getG_some {kvs : List (Int × PyData)} {k : Int} : (getG kvs k).isSome = decide (k ∈ kvs.map (·.1)) := by
  induction kvs with
  | nil => rfl
  | cons p kvs ih =>
    rw [getG_cons]
    by_cases c : p.1 = k
    · rw [if_pos c, decide_eq_true (by rw [List.map_cons, c]; exact List.mem_cons_self)]; rfl
    · rw [if_neg c, ih]
      exact decide_eq_decide.mpr ⟨fun z => List.mem_cons_of_mem _ z, fun z => (List.mem_cons.mp z).elim (fun w => absurd w.symm c) id⟩
theorem val_key {kvs : List (Int × PyData)} {vs : List (Key × V)} (h : RgK K G vs kvs) (k : Int) : (valV vs (.inl k)).isSome = decide (k ∈ kvs.map (·.1)) := by
  rw [← getG_some]
  rcases h.val k with ⟨e1, e2⟩ | ⟨d, v, e1, e2, _⟩ <;> rw [e1, e2] <;> rfl
end
section
variable {X : Cx} {tb : Tbs} {b : Bx tb} {S S1 S2 S3 : List Sl} {e f tg it : Expr} {d : PyData} {pos p pd p1 p2 : Pos} {n : Int} {rest : List Stmt} {P : Po} {kvs : List (Int × PyData)} {k : Int}
/-- {k: e} -/
theorem E_dispG {j : Nat} (he : ∀ b : Bx tb, E X b S e (.val d) S) : E X b S (.Dict [some (.Constant (.int k) j p1)] [e] pos) (.val (gD [(k, d)])) S :=
  PE.w (pe_lock (pe_disp (pps_cons pe_int (tv := fun σ' H' Q' => ∃ b' : Bx tb, tE X.K b' S (.val d) S σ' H' Q') ⟨fun pins s σ H Q I ⟨b', h⟩ => (he b').run pins s σ H Q I h⟩ pps_nil) rfl rfl (by simp) (show 1 ≤ 15 by decide))) fun σ H Q ⟨G, st, q⟩ => fun a ha => by
    have ga := st.sub.dom ha
    have ba := st.base.dom ha
    have ho : ∀ i w, Owns σ S i w → w ≠ a := fun i w x => st.ownNe ha x
    have st1 := (st.poke (o := .dK []) ga ba ho).hold upd_same ga ho
    refine ⟨b.hold a (.dK []), G, st1, fun v G2 H2 st2 x2 r2 => ?_⟩
    have hG0 : b.G0 a = none := st.g0.dom ga
    obtain ⟨st3, k1, k2, k3⟩ := st2.unhold ba (st.nw _ ha) hG0 (fun ps z => by cases z)
    refine ⟨k1, [(.inl k, v)], rfl, (show 1 ≤ 15 by decide), a, _, rfl, upd_same, trivial, fun od => ?_⟩
    rw [upd_twice]
    have st4 := st3.poke (o := .frz od (.dK [(.inl k, v)])) k2 ba k3
    have st5 := st4.know (o := .frz od (.dK [(.inl k, v)])) k2 upd_same (st.nw _ ha) k3
    have x5 : Ex G2 (upd G2 a (.frz od (.dK [(.inl k, v)]))) := (Ex.refl G2).new k2
    exact q _ _ _ st5 (x2.trans x5) (.dic upd_same (.cons (k := .inl k) (r2.mono x5) .nil))
/-- x = dict(d), the def's own -/
theorem B_dcopy (i : Nat) {x : Str} {px pc : Pos} {ds : List (PyData × PyData)} (hn : ∀ q ∈ ds, q.1 ≠ .none) (hm : X.mg "dict" = none) (ha : E X b S e (.val (.dict ds)) S1) (hN : X.N.Nodup) (hi : X.N[i]? = some x) (hx : Loc X.env.scope x) (h : SS X b (S1.set i (.dic ds)) rest P) (hg : Gl X "dict" := by rfl)
    (he : starEach [e] X.env = (false, eval e X.env) :: starEach [] X.env := by rfl) (hpl : (backTo pc (starEach [] X.env)).any (·.1) = false := by rfl) (hs : swapsWith (.Call (.Name "dict" p) [e] [] pc) (some (.Name x px)) pos.line X.env = pure false := by rfl) (hf : X.fn x = true ∨ X.env.scope.names.lookup x = some .local := by first | exact .inl rfl | exact .inr rfl) :
    SS X b S (.Assign [.Name x px] (.Call (.Name "dict" p) [e] [] pc) pos :: rest) P :=
  ss_cons (Mid := fun S' => S' = S1.set i (.dic ds)) (PS.w (ps_set hN hi hx (pe_callTy call_dictD hg hm bb_dict (A_cons ha A_nil he) (by decide) (by decide) he hpl) hs hf) fun D σ H ⟨G, st, q1, _⟩ => ⟨G, st, fun vs G2 H2 st2 x2 r => by
    cases r with
    | cons r1 rn =>
      cases rn
      obtain ⟨a, o, us, rfl, h1, h2⟩ := r1.dict hn
      refine ⟨a, us, rfl, .inr ⟨o, st2.sub.at_ h1⟩, fun c hc => ?_⟩
      have gc := st2.sub.dom hc
      have st3 := st2.poke (o := .dK us) gc (st2.base.dom hc) fun i q w => st2.ownNe hc w
      refine q1 G2 _ _ _ (st3.put (i := i) (s := .dic ds) (v := some (.ref c)) ⟨c, rfl, ⟨st2.base.dom hc, gc, fun _ => st2.nw _ hc, fun z => by cases z⟩, us, upd_same, h2⟩ fun _ j q e _ w => ?_) x2 rfl
      cases e
      exact st2.ownNe hc ⟨w.1, w.2⟩ rfl⟩) fun S' h' => by rw [h']; exact h
/-- d.setdefault(k, e), d an own dict -/
theorem B_dsetd (i : Nat) {o : Str} {px pa pc : Pos} (ho : PE X (.Name o px) (tVar i)) (hs0 : ∃ z, S[i]? = some (.dic z)) (hk : E X b S e (.val (.int k)) S1) (hv : E X b S1 f (.val d) S2) (hs2 : S2[i]? = some (.dic (gDl kvs))) (hz : kvs.length < sizeLine) (h : SS X b (S2.set i (.dic (gDl (setdG kvs k d)))) rest P)
    (m : M2 X (.Name o px) "setdefault" pa e f pc := by exact ⟨rfl, rfl, rfl, rfl⟩) : SS X b S (.Expr (.Call (.Attribute (.Name o px) "setdefault" pa) [e, f] [] pc) pos :: rest) P :=
  ss_cons (Mid := fun S' => S' = S2.set i (.dic (gDl (setdG kvs k d)))) (PS.w (ps_expr (pe_dsetd ho hk hv m)) fun D σ H ⟨G, st, q1, _⟩ => by
    obtain ⟨z, hz0⟩ := hs0
    obtain ⟨a, vs0, e1, ap0, h0, _⟩ := st.slotG hz0
    refine ⟨_, e1, a, rfl, .inl ⟨_, .inl h0⟩, G, st, fun w G2 H2 st2 x2 r2 => ⟨G2, st2, fun u G3 H3 st3 x3 r3 => ?_⟩⟩
    cases r2
    obtain ⟨a', vs, e1', ap, h3, r⟩ := st3.slotG hs2
    have ea : a' = a := by rw [e1] at e1'; cases e1'; rfl
    subst ea
    have rg := r.toG
    refine ⟨vs, .inl k, h3, rfl, by rw [rg.length]; exact hz, fun v hv => ?_, fun hv => ?_⟩
    · have e : setdG kvs k d = kvs := by
        unfold setdG
        rcases rg.val k with ⟨_, z2⟩ | ⟨d', v', z1, _, _⟩
        · rw [z2] at hv; cases hv
        · rw [z1]; rfl
      exact q1 G3 H3 σ (S2.set i (.dic (gDl (setdG kvs k d)))) (by rw [e, set_same hs2]; exact st3) (x2.trans x3) rfl
    · have e : setdG kvs k d = putG kvs k d := by
        unfold setdG putG
        rcases rg.val k with ⟨z1, _⟩ | ⟨_, v', _, z2, _⟩
        · have : (kvs.any fun p => decide (p.1 = k)) = false := by
            have hg := getG_some (kvs := kvs) (k := k)
            rw [z1] at hg
            have hg' : decide (k ∈ kvs.map (·.1)) = false := hg.symm
            rw [← Bool.not_eq_true, List.any_eq_true]
            rintro ⟨p, hp, hd⟩
            exact of_decide_eq_false hg' (List.mem_map.mpr ⟨p, hp, of_decide_eq_true hd⟩)
          rw [z1, this]
          rfl
        · rw [z2] at hv; cases hv
      exact q1 G3 _ σ (S2.set i (.dic (gDl (setdG kvs k d)))) (by rw [e]; exact st3.write (s' := .dic (gDl (putG kvs k d))) e1 hs2 rfl rfl rfl ⟨_, upd_same, (rg.put r3).rp⟩) (x2.trans x3) rfl) fun S' h' => by rw [h']; exact h
/-- d[k] = e, d an own dict -/
theorem B_dsetG (i : Nat) {o : Str} {px : Pos} (hu : X.A.units + 1 < cLine) (hv : E X b S e (.val d) S1) (ho : PE X (.Name o px) (tVar i)) (hs0 : ∃ z, S1[i]? = some (.dic z)) (hk : E X b S1 f (.val (.int k)) S2) (hs2 : S2[i]? = some (.dic (gDl kvs))) (hz : kvs.length < sizeLine) (h : SS X b (S2.set i (.dic (gDl (putG kvs k d)))) rest P)
    (hs : swapsWith e (some (.Subscript (.Name o px) f p1)) pos.line X.env = pure false := by rfl) : SS X b S (.Assign [.Subscript (.Name o px) f p1] e pos :: rest) P :=
  ss_cons (Mid := fun S' => S' = S2.set i (.dic (gDl (putG kvs k d)))) (PS.w (ps_dput hu ho hk hv hs) fun D σ H ⟨G, st, q1, _⟩ => ⟨G, st, fun w G2 H2 st2 x2 r2 => by
    obtain ⟨z, hz0⟩ := hs0
    obtain ⟨a, vs0, e1, _, _, _⟩ := st2.slotG hz0
    refine ⟨_, e1, G2, st2, fun y G3 H3 st3 x3 r3 => ?_⟩
    cases r3
    obtain ⟨a', vs, e1', ap, ha, r⟩ := st3.slotG hs2
    have ea : a' = a := by rw [e1] at e1'; cases e1'; rfl
    subst ea
    have rg := r.toG
    refine ⟨a', _, rfl, DPut.k (k := .inl k) ha (by rw [rg.length]; exact hz), ?_⟩
    exact q1 G3 _ σ _ (st3.write (s' := .dic (gDl (putG kvs k d))) e1 hs2 rfl rfl rfl ⟨_, upd_same, (rg.put (r2.mono x3)).rp⟩) (x2.trans x3) rfl⟩) fun S' h' => by rw [h']; exact h
/-- for k, v in d.items() -/
theorem I_itemsG {elts : List Expr} {kk : Nat} {tpos apos cpos : Pos} (h : E X b S e (.val (gD kvs)) S1) (hbase : attributeBase e "items" X.env (eval e X.env) = eval e X.env := by rfl) (hline : (apos.endLine == cpos.line) = true := by rfl) :
    IT X b S (.Tuple elts kk tpos) (.Call (.Attribute e "items" apos) [] [] cpos) (kvs.map fun p => PyData.tuple [.int p.1, p.2]) NoC S1 :=
  PI.w (pi_items h hbase hline) fun σ H Q ⟨G, st, q⟩ => ⟨G, st, fun v G2 H2 st2 x r => by
    obtain ⟨a, o, vs, rfl, ha, rg⟩ := r.gD
    refine ⟨a, o, vs, rfl, st2.sub.at_ ha, q _ G2 H2 st2 x trivial ?_⟩
    have hl : ∀ {tb : Tbs} {b : Bx tb} {G H : Hp} {σ : L2.St} {S : List Sl}, Ex G2 G → StOk X.K b G H σ S → H a = some (.frz o (.dK vs)) := fun x3 st3 => st3.sub.at_ (x3.at_ ha)
    refine ⟨fun b i G H σ S x3 st3 _ hi => ⟨hl x3 st3, by rw [rg.length]; simpa using hi⟩, fun b G H σ S x3 st3 _ => ⟨hl x3 st3, by rw [rg.length]; simp⟩, fun b i d G H σ S x H' x3 st3 _ hd y => ?_⟩
    obtain ⟨T, k, v, e1, e2, e3, e4⟩ := y
    subst e2; subst e4
    have x4 := st3.newEx (o := .tup [kV k, v]) e3
    refine ⟨_, st3.new e3, x4, ?_⟩
    rw [List.getElem?_map] at hd
    cases hq : kvs[i]? with
    | none => rw [hq] at hd; cases hd
    | some pr =>
      rw [hq] at hd
      cases hd
      obtain ⟨v', z1, z2⟩ := rg.at_ hq
      rw [e1] at z1
      cases z1
      exact .tup (.inl (.inl upd_same)) (.cons (.int _) (.cons ((z2.mono x3).mono x4) .nil))⟩
/-- for k in d -/
theorem I_keysG (h : E X b S e (.val (gD kvs)) S1) : IT X b S tg e (kvs.map fun p => PyData.int p.1) NoC S1 :=
  PI.w (pi_keys h) fun σ H Q ⟨G, st, q⟩ => ⟨G, st, fun v G2 H2 st2 x r => by
    obtain ⟨a, o, vs, rfl, ha, rg⟩ := r.gD
    refine ⟨a, o, rfl, .inl ⟨vs, st2.sub.at_ ha, q _ G2 H2 st2 x trivial ?_⟩⟩
    have hl : ∀ {tb : Tbs} {b : Bx tb} {G H : Hp} {σ : L2.St} {S : List Sl}, Ex G2 G → StOk X.K b G H σ S → H a = some (.frz o (.dK vs)) := fun x3 st3 => st3.sub.at_ (x3.at_ ha)
    refine ⟨fun b i G H σ S x3 st3 _ hi => ⟨hl x3 st3, by rw [rg.length]; simpa using hi⟩, fun b G H σ S x3 st3 _ => ⟨hl x3 st3, by rw [rg.length]; simp⟩, fun b i d G H σ S x H' x3 st3 _ hd y => ?_⟩
    obtain ⟨rfl, k, v, e1, e2⟩ := y
    subst e2
    refine ⟨G, st3, Ex.refl G, ?_⟩
    rw [List.getElem?_map] at hd
    cases hq : kvs[i]? with
    | none => rw [hq] at hd; cases hd
    | some pr =>
      rw [hq] at hd
      cases hd
      obtain ⟨v', z1, z2⟩ := rg.at_ hq
      rw [e1] at z1
      cases z1
      exact .int _⟩
/-- k in d, k not in d -/
theorem op_inG (hu : X.A.units + 1 < cLine) : OpR X (compareOp .In) (fun x y H Q => ∃ i a vs, x = V.int i ∧ y = V.ref a ∧ Rd H a (.dK vs) ∧ Q (.bl (valV vs (.inl i)).isSome) H) := by
  intro pins s σ H x y v u Q I rx ry h
  obtain ⟨i, a, vs, rfl, rfl, hd, q⟩ := h
  obtain rfl : u = Value.ref a := ry
  exact d_in (o := valV vs (.inl i)) hu I (.inl ⟨vs, .inl i, hd, rfl, rfl⟩) rx fun s1 I1 => ⟨.bl _, H, I1, rfl, q⟩
theorem op_niG (hu : X.A.units + 1 < cLine) : OpR X (compareOp .NotIn) (fun x y H Q => ∃ i a vs, x = V.int i ∧ y = V.ref a ∧ Rd H a (.dK vs) ∧ Q (.bl (!(valV vs (.inl i)).isSome)) H) := by
  intro pins s σ H x y v u Q I rx ry h
  obtain ⟨i, a, vs, rfl, rfl, hd, q⟩ := h
  obtain rfl : u = Value.ref a := ry
  exact d_notIn (o := valV vs (.inl i)) hu I (.inl ⟨vs, .inl i, hd, rfl, rfl⟩) rx fun s1 I1 => ⟨.bl _, H, I1, rfl, q⟩
theorem r2_inG {S : List Sl} {K : PySem.W.Frag} {b : Bx tb} {neg : Bool} : R2D K b S (fun x y H Q => ∃ i a vs, x = V.int i ∧ y = V.ref a ∧ Rd H a (.dK vs) ∧ Q (.bl (if neg = true then !(valV vs (.inl i)).isSome else (valV vs (.inl i)).isSome)) H) (.int n) (gD kvs) (.val (.bool (if neg = true then !decide (n ∈ kvs.map (·.1)) else decide (n ∈ kvs.map (·.1))))) := fun G H σ v w Q st r1 r2 q => by
  cases r1
  obtain ⟨a, o, vs, rfl, h, rg⟩ := r2.gD
  refine ⟨n, a, vs, rfl, rfl, .inr ⟨o, st.sub.at_ h⟩, ?_⟩
  rw [val_key rg]
  exact q _ G H st (Ex.refl G) (.bl _)
theorem T_inG (hu : X.A.units + 1 < cLine) (ha : E X b S1 e (.val (.int n)) S2) (hb : E X b S2 f (.val (gD kvs)) S3) (hm : behindInMarks .In f = false) : T X b S1 (.Compare e [.In] [f] pos) (decide (n ∈ kvs.map (·.1))) S3 := T_cmp (op_inG hu) (r2_inG (neg := false)) hm ha hb
theorem T_niG (hu : X.A.units + 1 < cLine) (ha : E X b S1 e (.val (.int n)) S2) (hb : E X b S2 f (.val (gD kvs)) S3) (hm : behindInMarks .NotIn f = false) : T X b S1 (.Compare e [.NotIn] [f] pos) (!decide (n ∈ kvs.map (·.1))) S3 := T_cmp (op_niG hu) (r2_inG (neg := true)) hm ha hb
theorem E_inG (hu : X.A.units + 1 < cLine) (ha : E X b S1 e (.val (.int n)) S2) (hb : E X b S2 f (.val (gD kvs)) S3) (hm : behindInMarks .In f = false) : E X b S1 (.Compare e [.In] [f] pos) (.val (.bool (decide (n ∈ kvs.map (·.1))))) S3 := E_cmp (op_inG hu) (r2_inG (neg := false)) hm ha hb
theorem E_niG (hu : X.A.units + 1 < cLine) (ha : E X b S1 e (.val (.int n)) S2) (hb : E X b S2 f (.val (gD kvs)) S3) (hm : behindInMarks .NotIn f = false) : E X b S1 (.Compare e [.NotIn] [f] pos) (.val (.bool (!decide (n ∈ kvs.map (·.1))))) S3 := E_cmp (op_niG hu) (r2_inG (neg := true)) hm ha hb
/-- d.get(k, e) -/
theorem E_getG {o : Expr} {pa pc : Pos} {d : PyData} (hu : X.A.units + 1 < cLine) (ho : E X b S o (.val (gD kvs)) S1) (hk : E X b S1 e (.val (.int k)) S2) (hx : E X b S2 f (.val d) S3) (hm : M2 X o "get" pa e f pc := by exact ⟨rfl, rfl, rfl, rfl⟩) :
    E X b S (.Call (.Attribute o "get" pa) [e, f] [] pc) (.val ((getG kvs k).getD d)) S3 :=
  PE.w (pe_dget2 hu ho hk hx hm) fun σ H Q ⟨G, st, q⟩ => ⟨G, st, fun v G1 H1 st1 x1 r1 => by
    obtain ⟨a, od, vs, rfl, h, rg⟩ := r1.gD
    refine ⟨a, rfl, .inl ⟨vs, .inr ⟨od, st1.sub.at_ h⟩⟩, G1, st1, fun y G2 H2 st2 x2 r2 => ⟨G2, st2, fun z G3 H3 st3 x3 r3 => ?_⟩⟩
    cases r2
    refine ⟨_, .inl ⟨vs, .inl k, .inr ⟨od, st3.sub.at_ ((x2.trans x3).at_ h)⟩, rfl, rfl⟩, ?_⟩
    rcases (rg.mono (x2.trans x3)).val k with ⟨z1, z2⟩ | ⟨d', v', z1, z2, z3⟩
    · rw [z2]
      exact q _ G3 H3 st3 (x1.trans (x2.trans x3)) (by rw [z1]; exact r3)
    · rw [z2]
      exact q _ G3 H3 st3 (x1.trans (x2.trans x3)) (by rw [z1]; exact z3)⟩
end
end D

set_option Elab.async false
set_option linter.all false
set_option maxRecDepth 100000
set_option maxHeartbeats 1000000
set_option autoImplicit false
/-! Pz: both pans (plain). -/
namespace D
open PySem
/-- loads on both pans -/
def Bo : List Int → Int → Prop
  | [], j => j = 0
  | w :: ws, j => Bo ws j ∨ Bo ws (j - w) ∨ Bo ws (j + w)
theorem bo_snoc : ∀ (ws : List Int) (w j : Int), Bo (ws ++ [w]) j ↔ Bo ws j ∨ Bo ws (j - w) ∨ Bo ws (j + w)
  | [], w, j => by
    show (Bo [] j ∨ Bo [] (j - w) ∨ Bo [] (j + w)) ↔ _
    exact Iff.rfl
  | x :: ws, w, j => by
    have e1 : j - x - w = j - w - x := by omega
    have e2 : j - x + w = j + w - x := by omega
    have e3 : j + x - w = j - w + x := by omega
    have e4 : j + x + w = j + w + x := by omega
    show (Bo (ws ++ [w]) j ∨ Bo (ws ++ [w]) (j - x) ∨ Bo (ws ++ [w]) (j + x)) ↔ (Bo ws j ∨ Bo ws (j - x) ∨ Bo ws (j + x)) ∨ (Bo ws (j - w) ∨ Bo ws (j - w - x) ∨ Bo ws (j - w + x)) ∨ (Bo ws (j + w) ∨ Bo ws (j + w - x) ∨ Bo ws (j + w + x))
    rw [bo_snoc ws w j, bo_snoc ws w (j - x), bo_snoc ws w (j + x), e1, e2, e3, e4]
    grind
theorem bo_le {j : Int} : ∀ {ws : List Int}, (∀ x ∈ ws, 0 ≤ x) → Bo ws j → j ≤ ws.sum := by
  intro ws
  induction ws generalizing j with
  | nil => intro _ h; have h' : j = 0 := h; rw [h']; exact Int.le_refl _
  | cons w ws ih =>
    intro h0 h
    have hw := h0 w List.mem_cons_self
    have ht : ∀ x ∈ ws, 0 ≤ x := fun x hx => h0 x (List.mem_cons_of_mem _ hx)
    rw [List.sum_cons]
    rcases h with h | h | h
    · have := ih ht h; omega
    · have := ih ht h; omega
    · have := ih ht h; omega
theorem bo_app {ws : List Int} {j : Int} (h : Bo ws j) : ∀ vs : List Int, Bo (ws ++ vs) j := fun vs => by
  induction vs generalizing ws with
  | nil => rw [List.append_nil]; exact h
  | cons v vs ih =>
    have := ih (ws := ws ++ [v]) ((bo_snoc ws v j).mpr (.inl h))
    rw [List.append_assoc] at this
    exact this
theorem bo_cover {ls : List Int} (h0 : ∀ x ∈ ls, 0 ≤ x) : ∀ g, g ≤ ls.length → (∀ i x, i < g → ls[i]? = some x → x ≤ 2 * (ls.take i).sum + 1) → ∀ j, -(ls.take g).sum ≤ j → j ≤ (ls.take g).sum → Bo (ls.take g) j
  | 0, _, _, j, h1, h2 => by
    have e : (ls.take 0).sum = 0 := rfl
    show j = 0
    omega
  | g + 1, hg, h, j, h1, h2 => by
    have hx : ls[g]? = some ls[g] := List.getElem?_eq_getElem (by omega)
    have hs := sum_take_succ hx
    have hw := h g _ (Nat.lt_succ_self _) hx
    have hp := h0 _ (List.getElem_mem (by omega : g < ls.length))
    have ih := bo_cover h0 g (by omega) (fun i x hi => h i x (by omega))
    have e : ls.take (g + 1) = ls.take g ++ [ls[g]] := by rw [List.take_succ, hx]; rfl
    rw [e, bo_snoc]
    rw [hs] at h1 h2
    by_cases c1 : j ≤ (ls.take g).sum
    · by_cases c2 : -(ls.take g).sum ≤ j
      · exact .inl (ih j c2 c1)
      · exact .inr (.inr (ih _ (by omega) (by omega)))
    · exact .inr (.inl (ih _ (by omega) (by omega)))
/-! ### the program's dict -/
abbrev SP := List (Int × List Int × List Int)
def keysS (kvs : SP) : List Int := kvs.map (·.1)
def setS (kvs : SP) (k : Int) (v : List Int × List Int) : SP := if k ∈ keysS kvs then kvs else kvs ++ [(k, v)]
abbrev spD (v : List Int × List Int) : PyData := .tuple [.tuple (v.1.map .int), .tuple (v.2.map .int)]
def encS (kvs : SP) : List (Int × PyData) := kvs.map fun q => (q.1, spD q.2)
theorem encS_keys (kvs : SP) : (encS kvs).map (·.1) = keysS kvs := by unfold encS keysS; rw [List.map_map]; rfl
theorem encS_len (kvs : SP) : (encS kvs).length = kvs.length := List.length_map ..
theorem setd_enc (kvs : SP) (k : Int) (v : List Int × List Int) : setdG (encS kvs) k (spD v) = encS (setS kvs k v) := by
  unfold setdG setS
  rw [getG_some, encS_keys]
  by_cases c : k ∈ keysS kvs
  · rw [if_pos (decide_eq_true c), if_pos c]
  · rw [if_neg (by rw [decide_eq_false c]; decide), if_neg c]
    unfold encS
    rw [List.map_append]
    rfl
def addS (p w : Int) (more : SP) (q : Int × List Int × List Int) : SP := setS (setS more (q.1 + w) (q.2.1 ++ [p], q.2.2)) (q.1 - w) (q.2.1, q.2.2 ++ [p])
def stepS (p w : Int) (found : SP) : SP := found.foldl (addS p w) found
theorem setS_len (kvs : SP) (k : Int) (v : List Int × List Int) : (setS kvs k v).length ≤ kvs.length + 1 := by
  unfold setS
  split
  · omega
  · rw [List.length_append]; exact Nat.le_refl _
theorem addS_len (p w : Int) (m : SP) (q : Int × List Int × List Int) : (addS p w m q).length ≤ m.length + 2 := by
  have h1 := setS_len (setS m (q.1 + w) (q.2.1 ++ [p], q.2.2)) (q.1 - w) (q.2.1, q.2.2 ++ [p])
  have h2 := setS_len m (q.1 + w) (q.2.1 ++ [p], q.2.2)
  unfold addS
  omega
theorem foldS_len (p w : Int) : ∀ (f m : SP), (f.foldl (addS p w) m).length ≤ m.length + 2 * f.length
  | [], m => by simp
  | q :: f, m => by
    have h1 := foldS_len p w f (addS p w m q)
    have h2 := addS_len p w m q
    rw [List.foldl_cons, List.length_cons]
    omega
theorem mem_setS {kvs : SP} {k : Int} {v : List Int × List Int} {j : Int} : j ∈ keysS (setS kvs k v) ↔ j ∈ keysS kvs ∨ j = k := by
  unfold setS
  split
  · next h => exact ⟨.inl, fun z => z.elim id fun e => e ▸ h⟩
  · unfold keysS
    rw [List.map_append, List.mem_append]
    show _ ∨ j ∈ [k] ↔ _
    rw [List.mem_singleton]
theorem in_setS {kvs : SP} {k : Int} {v : List Int × List Int} {q : Int × List Int × List Int} (h : q ∈ setS kvs k v) : q ∈ kvs ∨ q = (k, v) := by
  unfold setS at h
  split at h
  · exact .inl h
  · rcases List.mem_append.mp h with h | h
    · exact .inl h
    · exact .inr (List.mem_singleton.mp h)
theorem mem_foldS (p w : Int) {j : Int} : ∀ (f m : SP), j ∈ keysS (f.foldl (addS p w) m) ↔ j ∈ keysS m ∨ j - w ∈ keysS f ∨ j + w ∈ keysS f
  | [], m => by simp [keysS]
  | q :: f, m => by
    rw [List.foldl_cons, mem_foldS p w f]
    unfold addS
    rw [mem_setS, mem_setS]
    have e : ∀ x, x ∈ keysS (q :: f) ↔ x = q.1 ∨ x ∈ keysS f := fun x => by unfold keysS; rw [List.map_cons, List.mem_cons]
    rw [e, e]
    have a1 : (j = q.1 + w) ↔ (j - w = q.1) := by omega
    have a2 : (j = q.1 - w) ↔ (j + w = q.1) := by omega
    rw [a1, a2]
    grind
theorem in_foldS (p w : Int) {q : Int × List Int × List Int} : ∀ (f m : SP), q ∈ f.foldl (addS p w) m → q ∈ m ∨ ∃ r ∈ f, q = (r.1 + w, (r.2.1 ++ [p], r.2.2)) ∨ q = (r.1 - w, (r.2.1, r.2.2 ++ [p]))
  | [], m, h => .inl h
  | r :: f, m, h => by
    rw [List.foldl_cons] at h
    rcases in_foldS p w f _ h with h | ⟨r', hr, h⟩
    · unfold addS at h
      rcases in_setS h with h | h
      · rcases in_setS h with h | h
        · exact .inl h
        · exact .inr ⟨r, List.mem_cons_self, .inl h⟩
      · exact .inr ⟨r, List.mem_cons_self, .inr h⟩
    · exact .inr ⟨r', List.mem_cons_of_mem _ hr, h⟩
def spreadN (ns L : List Int) : Nat → SP
  | 0 => [(0, [], [])]
  | n + 1 => if (n : Int) ∈ L then spreadN ns L n else stepS n (ns.getD n 0) (spreadN ns L n)
def spreadV (ns L : List Int) : SP := spreadN ns L ns.length
theorem spread_len (ns L : List Int) : ∀ n, (spreadN ns L n).length ≤ 3 ^ n
  | 0 => Nat.le_refl _
  | n + 1 => by
    have ih := spread_len ns L n
    unfold spreadN
    rw [Nat.pow_succ]
    split
    · omega
    · have := foldS_len n (ns.getD n 0) (spreadN ns L n) (spreadN ns L n)
      unfold stepS
      omega
theorem restV_succ (n : Nat) (L : List Int) : restV (n + 1) L = if (n : Int) ∈ L then restV n L else restV n L ++ [(n : Int)] := by
  unfold restV keepN
  rw [List.range_succ, List.filter_append, List.map_append]
  by_cases c : (n : Int) ∈ L
  · rw [if_pos c, List.filter_cons_of_neg (by simp [c])]
    simp
  · rw [if_neg c, List.filter_cons_of_pos (by simp [c])]
    simp
def wtsV (ns ps : List Int) : List Int := ps.map fun p => ns.getD p.toNat 0
theorem spread_keys (ns L : List Int) (j : Int) : ∀ n, j ∈ keysS (spreadN ns L n) ↔ Bo (wtsV ns (restV n L)) j := fun n => by
  induction n generalizing j with
  | zero =>
    show j ∈ [(0 : Int)] ↔ j = 0
    rw [List.mem_singleton]
  | succ n ih =>
    rw [restV_succ]
    unfold spreadN
    split
    · exact ih j
    · unfold stepS wtsV
      rw [mem_foldS, List.map_append, ih, ih, ih]
      exact (bo_snoc _ _ _).symm
theorem left_wts (ns L : List Int) : leftV ns L = wtsV ns (restV ns.length L) := leftV_rest ns L
theorem spreadV_keys (ns L : List Int) (j : Int) : j ∈ keysS (spreadV ns L) ↔ Bo (leftV ns L) j := by
  rw [left_wts]
  exact spread_keys ns L j ns.length
/-- a spread -/
structure Sprd (ns L : List Int) (n : Nat) (q : Int × List Int × List Int) : Prop where
  u1 : q.2.1.Pairwise (· < ·)
  u2 : q.2.2.Pairwise (· < ·)
  r1 : ∀ p ∈ q.2.1, 0 ≤ p ∧ p < n ∧ p ∉ L ∧ p ∉ q.2.2
  r2 : ∀ p ∈ q.2.2, 0 ≤ p ∧ p < n ∧ p ∉ L
  sm : sumV ns q.2.1 - sumV ns q.2.2 = q.1
theorem up_snoc {t : List Int} {n : Int} (h : t.Pairwise (· < ·)) (hn : ∀ p ∈ t, p < n) : (t ++ [n]).Pairwise (· < ·) :=
  List.pairwise_append.mpr ⟨h, List.pairwise_singleton _ _, fun a ha c hc => by rw [List.mem_singleton.mp hc]; exact hn a ha⟩
theorem Sprd.more {ns L : List Int} {n : Nat} {q : Int × List Int × List Int} (h : Sprd ns L n q) : Sprd ns L (n + 1) q :=
  ⟨h.u1, h.u2, fun p hp => by have := h.r1 p hp; exact ⟨this.1, by omega, this.2.2⟩, fun p hp => by have := h.r2 p hp; exact ⟨this.1, by omega, this.2.2⟩, h.sm⟩
theorem spread_ok (ns L : List Int) : ∀ n, ∀ q ∈ spreadN ns L n, Sprd ns L n q
  | 0, q, hq => by
    rw [List.mem_singleton.mp (show q ∈ [((0 : Int), ([] : List Int), ([] : List Int))] from hq)]
    exact ⟨List.Pairwise.nil, List.Pairwise.nil, fun p hp => (by cases hp), fun p hp => (by cases hp), rfl⟩
  | n + 1, q, hq => by
    have ih := spread_ok ns L n
    unfold spreadN at hq
    split at hq
    · exact (ih q hq).more
    · next c =>
      rcases in_foldS _ _ _ _ hq with hq | ⟨r, hr, rfl | rfl⟩
      · exact (ih q hq).more
      · obtain ⟨u1, u2, r1, r2, sm⟩ := ih r hr
        refine ⟨up_snoc u1 fun p hp => (r1 p hp).2.1, u2, fun p hp => ?_, fun p hp => ?_, ?_⟩
        · rcases List.mem_append.mp hp with hp | hp
          · have := r1 p hp; exact ⟨this.1, by omega, this.2.2⟩
          · rw [List.mem_singleton.mp hp]
            exact ⟨by omega, by omega, c, fun z => by have := (r2 _ z).2.1; omega⟩
        · have := r2 p hp; exact ⟨this.1, by omega, this.2.2⟩
        · show sumV ns (r.2.1 ++ [(n : Int)]) - sumV ns r.2.2 = r.1 + ns.getD n 0
          rw [sumV_snoc, ← sm]
          show _ + ns.getD n 0 - _ = _
          omega
      · obtain ⟨u1, u2, r1, r2, sm⟩ := ih r hr
        refine ⟨u1, up_snoc u2 fun p hp => (r2 p hp).2.1, fun p hp => ?_, fun p hp => ?_, ?_⟩
        · have := r1 p hp
          refine ⟨this.1, by omega, this.2.2.1, fun z => ?_⟩
          rcases List.mem_append.mp z with z | z
          · exact this.2.2.2 z
          · rw [List.mem_singleton.mp z] at this; omega
        · rcases List.mem_append.mp hp with hp | hp
          · have := r2 p hp; exact ⟨this.1, by omega, this.2.2⟩
          · rw [List.mem_singleton.mp hp]
            exact ⟨by omega, by omega, c⟩
        · show sumV ns r.2.1 - sumV ns (r.2.2 ++ [(n : Int)]) = r.1 - ns.getD n 0
          rw [sumV_snoc, ← sm]
          show _ - (_ + ns.getD n 0) = _
          omega
theorem spread_lens (ns L : List Int) : ∀ n, ∀ q ∈ spreadN ns L n, q.2.1.length ≤ n ∧ q.2.2.length ≤ n
  | 0, q, hq => by
    rw [List.mem_singleton.mp (show q ∈ [((0 : Int), ([] : List Int), ([] : List Int))] from hq)]
    exact ⟨Nat.le_refl _, Nat.le_refl _⟩
  | n + 1, q, hq => by
    have ih := spread_lens ns L n
    unfold spreadN at hq
    split at hq
    · have := ih q hq; omega
    · rcases in_foldS _ _ _ _ hq with hq | ⟨r, hr, rfl | rfl⟩
      · have := ih q hq; omega
      · have := ih r hr
        show (r.2.1 ++ [(n : Int)]).length ≤ n + 1 ∧ r.2.2.length ≤ n + 1
        rw [List.length_append]
        show r.2.1.length + 1 ≤ n + 1 ∧ _
        omega
      · have := ih r hr
        show r.2.1.length ≤ n + 1 ∧ (r.2.2 ++ [(n : Int)]).length ≤ n + 1
        rw [List.length_append]
        show _ ∧ r.2.2.length + 1 ≤ n + 1
        omega
theorem items_enc (fo : SP) : ((encS fo).map fun p => PyData.tuple [.int p.1, p.2]) = fo.map fun q => PyData.tuple [.int q.1, spD q.2] := by
  unfold encS
  rw [List.map_map]
  rfl
theorem keys_encD (fo : SP) : ((encS fo).map fun p => PyData.int p.1) = (keysS fo).map PyData.int := by
  unfold encS keysS
  rw [List.map_map, List.map_map]
  rfl
theorem enum_enc (ns : List Int) : ((ns.map PyData.int).zipIdx.map fun q => PyData.tuple [.int (q.2 : Int), q.1]) = ns.zipIdx.map fun q => PyData.tuple [.int (q.2 : Int), .int q.1] := by
  rw [List.zipIdx_map, List.map_map]
  rfl
theorem get_enc {kvs : SP} {k : Int} {d : PyData} (h : getG (encS kvs) k = some d) : ∃ v, (k, v) ∈ kvs ∧ d = spD v := by
  induction kvs with
  | nil => cases h
  | cons q kvs ih =>
    have h' : getG ((q.1, spD q.2) :: encS kvs) k = some d := h
    rw [getG_cons] at h'
    by_cases c : q.1 = k
    · rw [if_pos c] at h'
      cases h'
      exact ⟨q.2, by rw [← c]; exact List.mem_cons_self, rfl⟩
    · rw [if_neg c] at h'
      obtain ⟨v, h1, h2⟩ := ih h'
      exact ⟨v, List.mem_cons_of_mem _ h1, h2⟩
/-- the law's loads -/
def stepL (w : Int) (ks : List Int) : List Int := ks.foldl (fun m l => addK (addK m (l + w)) (l - w)) ks
def lawB (ws : List Int) : List Int := ws.foldl (fun ks w => stepL w ks) [0]
theorem mem_foldL {w j : Int} : ∀ (f m : List Int), j ∈ f.foldl (fun m l => addK (addK m (l + w)) (l - w)) m ↔ j ∈ m ∨ j - w ∈ f ∨ j + w ∈ f
  | [], m => by simp
  | l :: f, m => by
    rw [List.foldl_cons, mem_foldL f, mem_addK, mem_addK, List.mem_cons, List.mem_cons]
    have a1 : (j = l + w) ↔ (j - w = l) := by omega
    have a2 : (j = l - w) ↔ (j + w = l) := by omega
    rw [a1, a2]
    grind
theorem foldL_len {w : Int} : ∀ (f m : List Int), (f.foldl (fun m l => addK (addK m (l + w)) (l - w)) m).length ≤ m.length + 2 * f.length
  | [], m => by simp
  | l :: f, m => by
    have h1 := foldL_len (w := w) f (addK (addK m (l + w)) (l - w))
    have h2 := addK_len (addK m (l + w)) (l - w)
    have h3 := addK_len m (l + w)
    rw [List.foldl_cons, List.length_cons]
    omega
theorem foldL_nodup {w : Int} : ∀ (f m : List Int), m.Nodup → (f.foldl (fun m l => addK (addK m (l + w)) (l - w)) m).Nodup
  | [], m, h => h
  | l :: f, m, h => foldL_nodup f _ (addK_nodup (addK_nodup h _) _)
theorem lawB_snoc (ws : List Int) (w : Int) : lawB (ws ++ [w]) = stepL w (lawB ws) := by unfold lawB; rw [List.foldl_append]; rfl
theorem lawB_mem : ∀ (n : Nat) (ws : List Int), ws.length = n → (∀ j, j ∈ lawB ws ↔ Bo ws j) ∧ (lawB ws).length ≤ 3 ^ n ∧ (lawB ws).Nodup
  | 0, ws, h => by
    rw [List.eq_nil_of_length_eq_zero h]
    refine ⟨fun j => List.mem_singleton, Nat.le_refl _, ?_⟩
    show ([0] : List Int).Nodup
    simp
  | n + 1, ws, h => by
    obtain ⟨vs, w, rfl, hl⟩ := snoc_of h
    obtain ⟨h1, h2, h3⟩ := lawB_mem n vs hl
    rw [lawB_snoc]
    refine ⟨fun j => ?_, ?_, foldL_nodup _ _ h3⟩
    · unfold stepL
      rw [mem_foldL, h1, h1, h1]
      exact (bo_snoc vs w j).symm
    · have := foldL_len (w := w) (lawB vs) (lawB vs)
      unfold stepL
      rw [Nat.pow_succ]
      omega
def posB (ws : List Int) : List Int := addAll [] ((lawB ws).filter fun j => decide (0 ≤ j))
theorem posB_mem (ws : List Int) (j : Int) : j ∈ posB ws ↔ 0 ≤ j ∧ Bo ws j := by
  unfold posB
  rw [mem_addAll, List.mem_filter, (lawB_mem _ ws rfl).1, decide_eq_true_eq]
  constructor
  · rintro (h | ⟨h1, h2⟩)
    · cases h
    · exact ⟨h2, h1⟩
  · exact fun h => .inr ⟨h.2, h.1⟩
theorem posB_nodup (ws : List Int) : (posB ws).Nodup := addAll_nodup _ List.nodup_nil
theorem posB_len (ws : List Int) : (posB ws).length ≤ 3 ^ ws.length := by
  have h1 := addAll_len ((lawB ws).filter fun j => decide (0 ≤ j)) []
  have h2 := List.length_filter_le (fun j : Int => decide (0 ≤ j)) (lawB ws)
  have h3 := (lawB_mem _ ws rfl).2.1
  have h0 : ([] : List Int).length = 0 := rfl
  unfold posB
  omega
theorem keysS_nodup (ns L : List Int) : ∀ n, (keysS (spreadN ns L n)).Nodup := by
  have hset : ∀ (kvs : SP) (k : Int) (v : List Int × List Int), (keysS kvs).Nodup → (keysS (setS kvs k v)).Nodup := fun kvs k v h => by
    unfold setS
    split
    · exact h
    · next hk =>
      unfold keysS
      rw [List.map_append]
      exact List.nodup_append.mpr ⟨h, by simp, fun a ha c hc => by rw [List.mem_singleton.mp (show c ∈ [k] from hc)]; exact fun e => hk (e ▸ ha)⟩
  have hf : ∀ (p w : Int) (f m : SP), (keysS m).Nodup → (keysS (f.foldl (addS p w) m)).Nodup := fun p w f => by
    induction f with
    | nil => exact fun m h => h
    | cons q f ih => exact fun m h => ih _ (hset _ _ _ (hset _ _ _ h))
  intro n
  induction n with
  | zero => show ([0] : List Int).Nodup; simp
  | succ n ih =>
    unfold spreadN
    split
    · exact ih
    · exact hf _ _ _ _ ih
/-- the sorted loads from 0 on -/
theorem both_sorted (ns L : List Int) : sortI ((keysS (spreadV ns L)).filter fun j => decide (0 ≤ j)) = sortI (posB (leftV ns L)) := by
  have n1 : ((keysS (spreadV ns L)).filter fun j => decide (0 ≤ j)).Nodup := (keysS_nodup ns L _).filter _
  have pm : ((keysS (spreadV ns L)).filter fun j => decide (0 ≤ j)).Perm (posB (leftV ns L)) := (List.perm_ext_iff_of_nodup n1 (posB_nodup _)).mpr fun j => by
    rw [List.mem_filter, spreadV_keys, posB_mem, decide_eq_true_eq]
    exact And.comm
  exact sortI_one ((sortI_perm _).trans pm) (sortI_up _)
/-! ### how far -/
def farK (ks : List Int) : Int := reachGo ks (topOf ks) 0
theorem farK_spec (ks : List Int) : 0 ≤ farK ks ∧ (∀ j, 0 < j → j ≤ farK ks → j ∈ ks) ∧ farK ks + 1 ∉ ks := by
  refine reachGo_spec (topOf ks) 0 fun x hx => ?_
  unfold topOf
  have h := (foldl_max ks 0).2 x (List.mem_cons_of_mem _ hx)
  omega
theorem farK_one {ks : List Int} {r : Int} (h0 : 0 ≤ r) (h1 : ∀ j, 0 < j → j ≤ r → j ∈ ks) (h2 : r + 1 ∉ ks) : farK ks = r := by
  obtain ⟨f0, f1, f2⟩ := farK_spec ks
  rcases Int.lt_trichotomy (farK ks) r with h | h | h
  · exact absurd (h1 (farK ks + 1) (by omega) (by omega)) f2
  · exact h
  · exact absurd (f1 (r + 1) (by omega) (by omega)) h2
theorem far_same (ns L : List Int) : farK (posB (leftV ns L)) = farK (keysS (spreadV ns L)) := by
  obtain ⟨f0, f1, f2⟩ := farK_spec (keysS (spreadV ns L))
  refine farK_one f0 (fun j h1 h2 => (posB_mem _ _).mpr ⟨by omega, (spreadV_keys ns L j).mp (f1 j h1 h2)⟩) fun z => f2 ((spreadV_keys ns L _).mpr ((posB_mem _ _).mp z).2)
def bothV (ns : List Int) (l : Nat) : Int := minI ((lossesV ns.length l).map fun M => farK (keysS (spreadV ns M)))
def minD (l : List Int) : PyData := if l = [] then .none else .int (minI l)
theorem minD_snoc (l : List Int) (x : Int) : minD (l ++ [x]) = .int (if l = [] then x else min (minI l) x) := by
  unfold minD
  rw [if_neg (by simp)]
  cases l with
  | nil => rfl
  | cons a l =>
    rw [if_neg (by simp)]
    show PyData.int (List.foldl min a (l ++ [x])) = _
    rw [List.foldl_append]
    rfl
def topsV (ns : List Int) (Ls : List (List Int)) : List Int := Ls.map fun M => farK (keysS (spreadV ns M))
def showB (ns L : List Int) (load : Int) (A C : List Int) : Bool := !(A.any fun p => decide (p ∈ L) || decide (p ∈ C)) && (!(C.any fun p => decide (p ∈ L)) && decide (sumV ns A - sumV ns C = load))
/-- the told bound -/
theorem both_lower {ns : List Int} {l j : Nat} (hp : ns.Pairwise (· ≤ ·)) (h0 : ∀ x ∈ ns, 0 ≤ x) (hl : l ≤ ns.length) (hj : j + l ≤ ns.length) (h : ∀ i, i < j → ns.getD (i + l) 0 ≤ 2 * (ns.take i).sum + 1) : (ns.take j).sum ≤ bothV ns l := by
  unfold bothV
  have hne : (lossesV ns.length l).map (fun M => farK (keysS (spreadV ns M))) ≠ [] := fun z => losses_ne hl (List.map_eq_nil_iff.mp z)
  obtain ⟨m1, _⟩ := minI_spec hne
  obtain ⟨M, hM, e⟩ := List.mem_map.mp m1
  rw [← e]
  have hMl := mem_losses.mp hM
  have hlen : (leftV ns M).length + l = ns.length := by
    have := keepN_len ns.length M hMl.1
    unfold leftV
    rw [List.length_map]
    omega
  have hsub := leftV_sub ns M
  have hls0 : ∀ x ∈ leftV ns M, 0 ≤ x := fun x hx => h0 x (hsub.subset hx)
  have hcov := bo_cover hls0 j (by omega) (fun i x hi hx => by
    obtain ⟨_, y, hy, hxy⟩ := sub_get hsub hp i x hx
    have e1 : ns.length - (leftV ns M).length = l := by omega
    rw [e1] at hy
    have h2 := h i hi
    rw [List.getD_eq_getElem?_getD, hy] at h2
    have h2' : y ≤ 2 * (ns.take i).sum + 1 := h2
    have h3 := sum_take_le hsub hp i (by omega)
    omega)
  have hs := sum_take_le hsub hp j (by omega)
  obtain ⟨f0, f1, f2⟩ := farK_spec (keysS (spreadV ns M))
  apply Classical.byContradiction
  intro hc
  refine f2 ((spreadV_keys ns M _).mpr ?_)
  have := hcov (farK (keysS (spreadV ns M)) + 1) (by omega) (by omega)
  have := bo_app this ((leftV ns M).drop j)
  rwa [List.take_append_drop] at this
end D

set_option Elab.async false
set_option linter.all false
set_option maxRecDepth 100000
set_option maxHeartbeats 1000000
set_option autoImplicit false
/-! Pe: a merchant at work (plain), and its object's attributes. -/
namespace D
open PySem PySem.Spec PyProof.Rows L2
theorem try_sum (ws : List Int) : ∀ st : List Int × Int, (ws.foldl tryW st).1.sum + (ws.foldl tryW st).2 = st.1.sum + st.2 := by
  induction ws with
  | nil => intro st; rfl
  | cons x ws ih =>
    intro st
    rw [List.foldl_cons, ih]
    unfold tryW
    by_cases c : x ≤ st.2
    · rw [if_pos c]
      simp only [List.sum_append, List.sum_cons, List.sum_nil]
      omega
    · rw [if_neg c]
theorem try_sub (ws : List Int) : ∀ st : List Int × Int, ∃ t, (ws.foldl tryW st).1 = st.1 ++ t ∧ t.Sublist ws := by
  induction ws with
  | nil => intro st; exact ⟨[], (List.append_nil _).symm, .slnil⟩
  | cons x ws ih =>
    intro st
    rw [List.foldl_cons]
    obtain ⟨t, h1, h2⟩ := ih (tryW st x)
    by_cases c : x ≤ st.2
    · refine ⟨x :: t, ?_, h2.cons_cons x⟩
      rw [h1]
      unfold tryW
      rw [if_pos c, List.append_assoc]
      rfl
    · refine ⟨t, ?_, h2.cons x⟩
      rw [h1]
      unfold tryW
      rw [if_neg c]
/-- what is weighed sums up to the load -/
theorem weighD_sum {ws t : List Int} {load : Int} (h : weighD ws load = dT t) : t.sum = load ∧ t.Sublist ws.reverse := by
  unfold weighD at h
  by_cases c : (weighL ws.reverse load).2 = 0
  · rw [if_pos c] at h
    have ht : (weighL ws.reverse load).1 = t := by
      injection h with h
      exact List.map_inj_right (fun a b e => by injection e) |>.mp h
    have h1 := try_sum ws.reverse ([], load)
    obtain ⟨t', h2, h3⟩ := try_sub ws.reverse ([], load)
    have h4 : (weighL ws.reverse load).1.sum + (weighL ws.reverse load).2 = 0 + load := h1
    rw [c, ht] at h4
    have h5 : (weighL ws.reverse load).1 = [] ++ t' := h2
    rw [ht] at h5
    rw [h5]
    exact ⟨by rw [← h5]; omega, h3⟩
  · rw [if_neg c] at h
    cases h
theorem weighD_cases (ws : List Int) (load : Int) : weighD ws load = .none ∨ ∃ t : List Int, weighD ws load = dT t := by
  unfold weighD
  split
  · exact .inr ⟨_, rfl⟩
  · exact .inl rfl
/-- the least load that isn't weighed, among those asked -/
theorem least_of {ws : List Int} (h0 : ∀ x ∈ ws, 0 ≤ x) : minI (((List.range ((loadK ws).length + 1)).filter fun (i : Nat) => !decide ((i : Int) ∈ loadK ws)).map fun (i : Nat) => (i : Int)) = reachV ws + 1 ∧
    ((List.range ((loadK ws).length + 1)).filter fun (i : Nat) => !decide ((i : Int) ∈ loadK ws)).map (fun (i : Nat) => (i : Int)) ≠ [] := by
  obtain ⟨r0, r1, r2⟩ := reachV_spec ws
  have hm := loadK_mem ws.length ws rfl
  have hz : (0 : Int) ∈ loadK ws := (hm 0).mpr ⟨[], List.nil_sublist _, rfl⟩
  have hin : ∀ j : Nat, (j : Int) ≤ reachV ws → (j : Int) ∈ loadK ws := fun j hj => by
    by_cases c : j = 0
    · subst c; exact hz
    · exact (hm _).mpr (r1 _ (by omega) hj)
  have hlen : (reachV ws).toNat + 1 ≤ (loadK ws).length := by
    have h1 : ((List.range ((reachV ws).toNat + 1)).map fun (i : Nat) => (i : Int)).Nodup := by
      rw [List.nodup_iff_pairwise_ne, List.pairwise_map]
      exact List.nodup_range.imp fun h e => h (by omega)
    have h2 : ∀ x ∈ (List.range ((reachV ws).toNat + 1)).map (fun (i : Nat) => (i : Int)), x ∈ loadK ws := fun x hx => by
      obtain ⟨i, hi, rfl⟩ := List.mem_map.mp hx
      have := List.mem_range.mp hi
      exact hin i (by omega)
    have h3 := few_of_mem (loadK ws) _ h1
    rw [List.filter_eq_self.mpr (fun x hx => decide_eq_true (h2 x hx))] at h3
    rw [List.length_map, List.length_range] at h3
    exact h3
  have hout : reachV ws + 1 ∉ loadK ws := fun z => r2 ((hm _).mp z)
  have hmem : reachV ws + 1 ∈ ((List.range ((loadK ws).length + 1)).filter fun (i : Nat) => !decide ((i : Int) ∈ loadK ws)).map (fun (i : Nat) => (i : Int)) := by
    refine List.mem_map.mpr ⟨(reachV ws).toNat + 1, List.mem_filter.mpr ⟨List.mem_range.mpr (by omega), ?_⟩, by omega⟩
    have e : (((reachV ws).toNat + 1 : Nat) : Int) = reachV ws + 1 := by omega
    rw [e]
    simp [hout]
  refine ⟨minI_eq hmem fun y hy => ?_, fun z => by rw [z] at hmem; cases hmem⟩
  obtain ⟨i, hi, rfl⟩ := List.mem_map.mp hy
  obtain ⟨_, h2⟩ := List.mem_filter.mp hi
  have h3 : (i : Int) ∉ loadK ws := by simpa using h2
  by_cases h : reachV ws < (i : Int)
  · omega
  · exact absurd (hin i (by omega)) h3
/-! ### attributes of a bench -/
def bF (ns L : List Int) : List (Str × PyData) := [("_box", dT ns), ("_lost", dT L)]
section
variable {ns L M : List Int}
theorem bF_mk : putD "_lost" (dT L) (putD "_box" (dT ns) []) = bF ns L := by
  show (if ("_box" : Str) = "_lost" then _ else (("_box" : Str), dT ns) :: putD "_lost" (dT L) []) = bF ns L
  rw [if_neg (by decide +kernel)]
  rfl
theorem bF_put : putD "_lost" (dT M) (bF ns L) = bF ns M := by
  show (if ("_box" : Str) = "_lost" then _ else (("_box" : Str), dT ns) :: (if ("_lost" : Str) = "_lost" then [(("_lost" : Str), dT M)] else _)) = bF ns M
  rw [if_neg (by decide +kernel), if_pos rfl]
  rfl
theorem bF_box : List.lookup ("_box" : Str) (bF ns L) = some (dT ns) := by
  unfold bF
  rw [List.lookup_cons, show (("_box" : Str) == "_box") = true by decide +kernel]
theorem bF_lost : List.lookup ("_lost" : Str) (bF ns L) = some (dT L) := by
  unfold bF
  rw [List.lookup_cons, show (("_lost" : Str) == "_box") = false by decide +kernel, List.lookup_cons, show (("_lost" : Str) == "_lost") = true by decide +kernel]
theorem bF_no {m : Str} (h1 : (m == "_box") = false) (h2 : (m == "_lost") = false) : (bF ns L).lookup m = none := by
  unfold bF
  rw [List.lookup_cons, h1, List.lookup_cons, h2]
  rfl
end
/-! ### len of a dict -/
section
variable {X : Cx} {tb : Tbs} {b : Bx tb} {S S1 : List Sl} {e : Expr} {ks : List Int} {pos p : Pos}
theorem cr_lenK : CallR X (.builtin "len") (fun xs H Q => ∃ a kvs, xs = [V.ref a] ∧ Rd H a (.dK kvs) ∧ Q (.int kvs.length) H) := by
  intro pins s σ H xs us Q I r h
  obtain ⟨a, kvs, rfl, ha, q⟩ := h
  obtain ⟨u, rfl, ru⟩ := vals1 r
  cases ru
  exact d_len I ha fun t s' J => ⟨.int kvs.length, H, J, ⟨t, rfl⟩, q⟩
theorem E_lenB (hm : X.mg "len" = none) (ha : E X b S e (.val (bD ks)) S1) (hg : Gl X "len" := by rfl) (he : starEach [e] X.env = (false, eval e X.env) :: starEach [] X.env := by rfl) (hpl : (backTo pos (starEach [] X.env)).any (·.1) = false := by rfl) : E X b S (.Call (.Name "len" p) [e] [] pos) (.val (.int (ks.length : Int))) S1 :=
  E_cb (pe_callB cr_lenK hg hm bb_len (A_cons ha A_nil he) (by decide) (by decide) he hpl) fun G H σ vs Q st r q => by
    cases r with
    | cons r1 rn =>
      cases rn
      obtain ⟨a, o, rfl, h1⟩ := r1.bD
      refine ⟨a, vB ks, rfl, .inr ⟨o, st.sub.at_ h1⟩, ?_⟩
      rw [List.length_map]
      exact q _ G H st (Ex.refl G) (.int _)
end
end D

set_option Elab.async false
set_option linter.all false
set_option maxRecDepth 100000
set_option maxHeartbeats 1000000
set_option autoImplicit false
/-! a merchant begins -/
namespace Q
open PySem PySem.Spec PyProof.Rows L2 D
section
variable {P : Program} {w : World} {K : PySem.W.Frag} {tb : Tbs} {mg : Str → Option Value} {base : Heap} {f : Addr} {fd : FuncData} {cBench cBadBox cBadNumber cBadStep : Addr}
/-- a bench's box and loss -/
def BOk (ns L : List Int) : Prop := IsBox ns ∧ LossOk ns.length L

/-! Bench.__init__: 0 self, 1 box -/
abbrev m_Bench0 : Stmt := inClass (topS 24) 0
theorem sm_Bench0 : FnScope ["self", "box"] ["self", "box"] (defScope m_Bench0) := ⟨rfl, rfl, rfl, by decide +kernel, rfl, by decide +kernel, by decide +kernel⟩
def preBench0 (fs : List (Str × PyData)) (ds : List PyData) (d : PyData) (fs' : List (Str × PyData)) : Prop := ∃ ns : List Int, fs = [] ∧ ds = [dT ns] ∧ IsBox ns ∧ d = .none ∧ fs' = bF ns []
theorem ok_Bench0 (F : Fun K "__init__" "Bench.__init__" m_Bench0 f fd) (yBench : Cls K cBench) (a_box : NoAttr K cBench "_box") (a_lost : NoAttr K cBench "_lost") (F_need_box : Fd P w K mg base 2 "need_box" ["value"] (spV K tb preNeedBox)) : FnOk P w K mg base CX0 3 f fd ["self", "box"] (spM K tb cBench preBench0) := by
  refine fn_mkM F sm_Bench0 (fun fs ds d fs' ⟨_, _, h, _⟩ => by rw [h]; rfl) fun cdv A outer s H E b fs ds d fs' hr hp => ?_
  obtain ⟨ns, rfl, rfl, hb, rfl, rfl⟩ := hp
  refine B_expr (E_call F_need_box hr rfl (A_cons (E_name 1 rfl (pv 1)) A_nil) ⟨ns, rfl, hb, rfl⟩) ?_
  refine B_fld 0 yBench a_box (E_name 1 rfl (pv 1)) rfl (pv 0) (Nat.zero_le _) ?_
  refine B_fld 0 yBench a_lost E_tup0 rfl (pv 0) (Nat.le_of_ble_eq_true rfl) ?_
  exact B_nil ⟨rfl, congrArg (fun z => some (Sl.ins false cBench z)) bF_mk⟩
def preBench0X (fs : List (Str × PyData)) (ds : List PyData) (nm : Str) (fo : Fo) : Prop := ∃ v idx, fs = [] ∧ ds = [v] ∧ BoxBad v idx ∧ nm = "BadBox" ∧ fo = some (("index" : Str), idx)
theorem okX_Bench0 (F : Fun K "__init__" "Bench.__init__" m_Bench0 f fd) (yBench : Cls K cBench) (xBadBox : Xc1 K mg "BadBox" "index" cBadBox) (FX_need_box : FdX P w K mg base 3 "need_box" ["value"] (spX K mg tb preNeedBoxX)) : FnOk P w K mg base (L2.CX P w) 4 f fd ["self", "box"] (spMX K mg tb cBench preBench0X) := by
  refine fn_mkMX F sm_Bench0 (fun fs ds nm fo ⟨_, _, _, h, _⟩ => by rw [h]; rfl) fun cdv A outer s H E b fs ds nm fo hr tk po hp => ?_
  obtain ⟨v, idx, rfl, rfl, hb, rfl, rfl⟩ := hp
  exact B_exprX (EX_call FX_need_box tk hr rfl (A_cons (E_name 1 rfl (pv 1)) A_nil) ⟨v, idx, rfl, hb, rfl, rfl⟩ xBadBox.g) ⟨xBadBox.g, rfl, rfl⟩

end
end Q

set_option Elab.async false
set_option linter.all false
set_option maxRecDepth 100000
set_option maxHeartbeats 1000000
set_option autoImplicit false
/-! a merchant at work -/
namespace Q
open PySem PySem.Spec PyProof.Rows L2 D
section
variable {P : Program} {w : World} {K : PySem.W.Frag} {tb : Tbs} {mg : Str → Option Value} {base : Heap} {f : Addr} {fd : FuncData} {cBench cBadBox cBadNumber cBadStep : Addr}
/-! Bench.lost: 0 self -/
abbrev m_Bench1 : Stmt := inClass (topS 24) 1
theorem sm_Bench1 : FnScope ["self"] ["self"] (defScope m_Bench1) := ⟨rfl, rfl, rfl, by decide +kernel, rfl, by decide +kernel, by decide +kernel⟩
def preBench1 (fs : List (Str × PyData)) (ds : List PyData) (d : PyData) (fs' : List (Str × PyData)) : Prop := ∃ ns L : List Int, fs = bF ns L ∧ ds = [] ∧ BOk ns L ∧ d = dT L ∧ fs' = bF ns L
theorem ok_Bench1 (F : Fun K "lost" "Bench.lost" m_Bench1 f fd) (yBench : Cls K cBench) (a_lost : NoAttr K cBench "_lost") : FnOk P w K mg base CX0 1 f fd ["self"] (spM K tb cBench preBench1) := by
  refine fn_mkM F sm_Bench1 (fun fs ds d fs' ⟨_, _, _, h, _⟩ => by rw [h]; rfl) fun cdv A outer s H E b fs ds d fs' hr hp => ?_
  obtain ⟨ns, L, rfl, rfl, hb, rfl, rfl⟩ := hp
  exact B_ret (E_fld 0 yBench a_lost rfl (pv 0) bF_lost) ⟨rfl, rfl⟩

/-! Bench.left: 0 self -/
abbrev m_Bench2 : Stmt := inClass (topS 24) 2
theorem sm_Bench2 : FnScope ["self"] ["self"] (defScope m_Bench2) := ⟨rfl, rfl, rfl, by decide +kernel, rfl, by decide +kernel, by decide +kernel⟩
def preBench2 (fs : List (Str × PyData)) (ds : List PyData) (d : PyData) (fs' : List (Str × PyData)) : Prop := ∃ ns L : List Int, fs = bF ns L ∧ ds = [] ∧ BOk ns L ∧ d = dT (leftV ns L) ∧ fs' = bF ns L
theorem ok_Bench2 (F : Fun K "left" "Bench.left" m_Bench2 f fd) (yBench : Cls K cBench) (a_box : NoAttr K cBench "_box") (a_lost : NoAttr K cBench "_lost") (F_left_by : Fd P w K mg base 1 "left_by" ["box", "loss"] (spV K tb preLeftBy)) : FnOk P w K mg base CX0 2 f fd ["self"] (spM K tb cBench preBench2) := by
  refine fn_mkM F sm_Bench2 (fun fs ds d fs' ⟨_, _, _, h, _⟩ => by rw [h]; rfl) fun cdv A outer s H E b fs ds d fs' hr hp => ?_
  obtain ⟨ns, L, rfl, rfl, hb, rfl, rfl⟩ := hp
  have hh := hb.1.hi
  exact B_ret (E_call F_left_by hr rfl (A_cons (E_fld 0 yBench a_box rfl (pv 0) bF_box) (A_cons (E_fld 0 yBench a_lost rfl (pv 0) bF_lost) A_nil)) ⟨ns, L, .inl rfl, by omega, rfl⟩) ⟨rfl, rfl⟩

/-! Bench.reach: 0 self -/
abbrev m_Bench3 : Stmt := inClass (topS 24) 3
theorem sm_Bench3 : FnScope ["self"] ["self"] (defScope m_Bench3) := ⟨rfl, rfl, rfl, by decide +kernel, rfl, by decide +kernel, by decide +kernel⟩
def preBench3 (fs : List (Str × PyData)) (ds : List PyData) (d : PyData) (fs' : List (Str × PyData)) : Prop := ∃ ns L : List Int, fs = bF ns L ∧ ds = [] ∧ BOk ns L ∧ d = .int (reachV (leftV ns L)) ∧ fs' = bF ns L
theorem left_box {ns L : List Int} (h : IsBox ns) : (leftV ns L).length ≤ 10 ∧ (leftV ns L).Pairwise (· ≤ ·) ∧ (∀ x ∈ leftV ns L, 1 ≤ x ∧ x ≤ 1000) := by
  have hs := leftV_sub ns L
  have hh := h.hi
  have hl := hs.length_le
  refine ⟨by omega, ?_, fun x hx => h.pos x (hs.subset hx)⟩
  exact List.Pairwise.sublist hs (box_pw h)
theorem ok_Bench3 (F : Fun K "reach" "Bench.reach" m_Bench3 f fd) (yBench : Cls K cBench) (p_left : Mp P w K mg base 2 cBench "left" (spM K tb cBench preBench2)) (F_safe_of : Fd P w K mg base 3 "safe_of" ["box", "lost"] (spV K tb preSafeOf)) : FnOk P w K mg base CX0 4 f fd ["self"] (spM K tb cBench preBench3) := by
  refine fn_mkM F sm_Bench3 (fun fs ds d fs' ⟨_, _, _, h, _⟩ => by rw [h]; rfl) fun cdv A outer s H E b fs ds d fs' hr hp => ?_
  obtain ⟨ns, L, rfl, rfl, hb, rfl, rfl⟩ := hp
  obtain ⟨l1, l2, l3⟩ := left_box (L := L) hb.1
  have hrs := reach_safe l2 fun x hx => by have := l3 x hx; omega
  refine B_ret (E_if (r := .val (.int (reachV (leftV ns L)))) (S2 := [.ins false cBench (bF ns L)]) (T_tru (E_prop (d := dT (leftV ns L)) 0 yBench p_left hr rfl (pv 0) ⟨ns, L, rfl, rfl, hb, rfl, rfl⟩)) (fun hc => ?_) (fun hc => ?_)) ⟨rfl, rfl⟩
  · exact E_to (E_call F_safe_of hr rfl (A_cons (E_prop 0 yBench p_left hr rfl (pv 0) ⟨ns, L, rfl, rfl, hb, rfl, rfl⟩) (A_cons E_int A_nil)) ⟨leftV ns L, 0, rfl, by omega, Nat.zero_le _, rfl⟩) (by rw [hrs])
  · have e : leftV ns L = [] := by
      cases hl : leftV ns L with
      | nil => rfl
      | cons x xs => rw [hl] at hc; cases hc
    rw [e]
    exact E_int

/-! Bench.lose: 0 self, 1 place -/
abbrev m_Bench4 : Stmt := inClass (topS 24) 4
theorem sm_Bench4 : FnScope ["self", "place"] ["self", "place"] (defScope m_Bench4) := ⟨rfl, rfl, rfl, by decide +kernel, rfl, by decide +kernel, by decide +kernel⟩
def preBench4 (fs : List (Str × PyData)) (ds : List PyData) (d : PyData) (fs' : List (Str × PyData)) : Prop := ∃ (ns L : List Int) (p : Int), fs = bF ns L ∧ ds = [.int p] ∧ BOk ns L ∧ 0 ≤ p ∧ p < ns.length ∧ p ∉ L ∧ d = .none ∧ fs' = bF ns (sortI (L ++ [p]))
theorem loss_few {n : Nat} {L : List Int} (h : LossOk n L) : L.length ≤ n := by
  have h1 : L.Nodup := h.up.imp fun z => by omega
  have h2 := few_of_mem (rngI n) L h1
  rw [List.filter_eq_self.mpr fun x hx => by
    have := h.rng x hx
    exact decide_eq_true (List.mem_map.mpr ⟨x.toNat, List.mem_range.mpr (by omega), by omega⟩), rngI_len] at h2
  exact h2
theorem ok_Bench4 (F : Fun K "lose" "Bench.lose" m_Bench4 f fd) (B : Bt mg) (yBench : Cls K cBench) (a_box : NoAttr K cBench "_box") (a_lost : NoAttr K cBench "_lost") (F_need_number : Fd P w K mg base 2 "need_number" ["value", "low", "high"] (spV K tb preNeedNum)) : FnOk P w K mg base CX0 3 f fd ["self", "place"] (spM K tb cBench preBench4) := by
  refine fn_mkM F sm_Bench4 (fun fs ds d fs' ⟨_, _, _, _, h, _⟩ => by rw [h]; rfl) fun cdv A outer s H E b fs ds d fs' hr hp => ?_
  obtain ⟨ns, L, p, rfl, rfl, hb, p0, p1, hp, rfl, rfl⟩ := hp
  have hh := hb.1.hi
  have hl := loss_few hb.2
  refine B_expr (E_call F_need_number hr rfl (A_cons (E_name 1 rfl (pv 1)) (A_cons E_int (A_cons (E_sub (E_lenT B.len (E_fld 0 yBench a_box rfl (pv 0) bF_box)) E_int) A_nil))) ⟨_, _, _, rfl, by simp [numD]; omega, rfl⟩) ?_
  refine B_ifR (c := false) (T_to (T_inT (E_name 1 rfl (pv 1)) (E_fld 0 yBench a_lost rfl (pv 0) bF_lost) rfl) (decide_eq_false hp)) (fun hc => by cases hc) (fun _ => ?_)
  refine B_fld 0 yBench a_lost (E_tupleL B.tuple (E_fz (E_sortedT B.sorted (E_catTi (E_fld 0 yBench a_lost rfl (pv 0) bF_lost) (E_tup1i (E_name 1 rfl (pv 1))) (by simp; omega))))) rfl (pv 0) (Nat.le_of_ble_eq_true rfl) ?_
  exact B_nil ⟨rfl, congrArg (fun z => some (Sl.ins false cBench z)) bF_put⟩
def preBench4X (fs : List (Str × PyData)) (ds : List PyData) (nm : Str) (fo : Fo) : Prop := ∃ (ns L : List Int) (v : PyData), fs = bF ns L ∧ ds = [v] ∧ BOk ns L ∧ fo = none ∧ ((numD v 0 ((ns.length : Int) - 1) = false ∧ nm = "BadNumber") ∨ ∃ p : Int, v = .int p ∧ 0 ≤ p ∧ p < ns.length ∧ p ∈ L ∧ nm = "BadStep")
theorem okX_Bench4 (F : Fun K "lose" "Bench.lose" m_Bench4 f fd) (B : Bt mg) (yBench : Cls K cBench) (a_box : NoAttr K cBench "_box") (a_lost : NoAttr K cBench "_lost") (xBadNumber : Xc0 K mg "BadNumber" cBadNumber) (xBadStep : Xc0 K mg "BadStep" cBadStep) (F_need_number : Fd P w K mg base 2 "need_number" ["value", "low", "high"] (spV K tb preNeedNum)) (FX_need_number : FdX P w K mg base 2 "need_number" ["value", "low", "high"] (spX K mg tb preNeedNumX)) : FnOk P w K mg base (L2.CX P w) 3 f fd ["self", "place"] (spMX K mg tb cBench preBench4X) := by
  refine fn_mkMX F sm_Bench4 (fun fs ds nm fo ⟨_, _, _, _, h, _⟩ => by rw [h]; rfl) fun cdv A outer s H E b fs ds nm fo hr tk po hp => ?_
  obtain ⟨ns, L, v, rfl, rfl, hb, rfl, hp⟩ := hp
  rcases hp with ⟨hv, rfl⟩ | ⟨p, rfl, p0, p1, hp, rfl⟩
  · exact B_exprX (EX_call FX_need_number tk hr rfl (A_cons (E_name 1 rfl (pv 1)) (A_cons E_int (A_cons (E_sub (E_lenT B.len (E_fld 0 yBench a_box rfl (pv 0) bF_box)) E_int) A_nil))) ⟨_, _, _, rfl, hv, rfl, rfl⟩ xBadNumber.g) ⟨xBadNumber.g, rfl, rfl⟩
  · refine B_expr (E_call F_need_number hr rfl (A_cons (E_name 1 rfl (pv 1)) (A_cons E_int (A_cons (E_sub (E_lenT B.len (E_fld 0 yBench a_box rfl (pv 0) bF_box)) E_int) A_nil))) ⟨_, _, _, rfl, by simp [numD]; omega, rfl⟩) ?_
    exact B_ifR (c := true) (T_to (T_inT (E_name 1 rfl (pv 1)) (E_fld 0 yBench a_lost rfl (pv 0) bF_lost) rfl) (decide_eq_true hp)) (fun _ => B_raise rfl tk (MX_own0 xBadStep rfl) ⟨xBadStep.g, rfl, rfl⟩) (fun hc => by cases hc)

/-! Bench.weigh: 0 self, 1 load, 2 found -/
abbrev m_Bench6 : Stmt := inClass (topS 24) 6
theorem sm_Bench6 : FnScope ["self", "load", "found"] ["self", "load"] (defScope m_Bench6) := ⟨rfl, rfl, rfl, by decide +kernel, rfl, by decide +kernel, by decide +kernel⟩
def preBench6 (fs : List (Str × PyData)) (ds : List PyData) (d : PyData) (fs' : List (Str × PyData)) : Prop := ∃ (ns L : List Int) (load : Int) (t : List Int), fs = bF ns L ∧ ds = [.int load] ∧ BOk ns L ∧ 0 ≤ load ∧ load ≤ ns.sum ∧ weighD (leftV ns L) load = dT t ∧ d = dT t ∧ fs' = bF ns L
theorem box_sum {ns : List Int} (h : IsBox ns) : 0 ≤ ns.sum ∧ ns.sum ≤ 10000 := by
  have h1 : ns.sum ≤ 1000 * ns.length := sum_le_mul fun x hx => (h.pos x hx).2
  have h2 : 0 ≤ ns.sum := sum_sub_le (List.nil_sublist ns) fun x hx => by have := h.pos x hx; omega
  have h3 := h.hi
  exact ⟨h2, by omega⟩
/-- the weights that are taken can be summed -/
theorem taken_long {ns L t : List Int} {load : Int} (h : IsBox ns) (ht : weighD (leftV ns L) load = dT t) : (∀ k, k ≤ t.length → InLong ((t.take k).sum)) ∧ (∀ n ∈ t, InLong n) := by
  obtain ⟨_, h2⟩ := weighD_sum ht
  obtain ⟨l1, l2, l3⟩ := left_box (L := L) h
  have hx : ∀ x ∈ t, 0 ≤ x ∧ x ≤ 1000 := fun x hx => by
    have := l3 x (List.mem_reverse.mp (h2.subset hx)); omega
  have hl := h2.length_le
  rw [List.length_reverse] at hl
  refine ⟨fun k _ => ?_, fun n hn => ?_⟩
  · have a1 : (t.take k).sum ≤ 1000 * (t.take k).length := sum_le_mul fun x hx' => (hx x (List.mem_of_mem_take hx')).2
    have a2 : 0 ≤ (t.take k).sum := sum_sub_le (List.nil_sublist _) fun x hx' => (hx x (List.mem_of_mem_take hx')).1
    rw [List.length_take] at a1
    unfold InLong; omega
  · have := hx n hn
    unfold InLong; omega
theorem ok_Bench6 (F : Fun K "weigh" "Bench.weigh" m_Bench6 f fd) (B : Bt mg) (C : Ct mg) (yBench : Cls K cBench) (a_box : NoAttr K cBench "_box") (a_lost : NoAttr K cBench "_lost") (F_need_number : Fd P w K mg base 2 "need_number" ["value", "low", "high"] (spV K tb preNeedNum)) (F_weigh_losses : Fd P w K mg base 5 "weigh_losses" ["box", "loss", "load"] (spV K tb preWeigh)) : FnOk P w K mg base CX0 6 f fd ["self", "load"] (spM K tb cBench preBench6) := by
  refine fn_mkM F sm_Bench6 (fun fs ds d fs' ⟨_, _, _, _, _, h, _⟩ => by rw [h]; rfl) fun cdv A outer s H E b fs ds d fs' hr hp => ?_
  obtain ⟨ns, L, load, t, rfl, rfl, hb, l0, l1, ht, rfl, rfl⟩ := hp
  obtain ⟨s0, s1⟩ := box_sum hb.1
  obtain ⟨bl1, bl2⟩ := box_long hb.1
  obtain ⟨tl1, tl2⟩ := taken_long hb.1 ht
  have hsum := (weighD_sum ht).1
  refine B_expr (E_call F_need_number (hr.mono (by decide)) rfl (A_cons (E_name 1 rfl (pv 1)) (A_cons E_int (A_cons (E_muls (E_glob C.MOST_WEIGHT) (E_glob C.MOST_WEIGHTS) (by decide)) A_nil))) ⟨_, _, _, rfl, by simp [numD]; omega, rfl⟩) ?_
  refine B_set 2 (d := dT t) (E_to (E_call F_weigh_losses hr rfl (A_cons (E_fld 0 yBench a_box rfl (pv 0) bF_box) (A_cons (E_fld 0 yBench a_lost rfl (pv 0) bF_lost) (A_cons (E_to (E_min2 rfl B.min (E_name 1 rfl (pv 1)) (E_sumT rfl B.sum (E_fld 0 yBench a_box rfl (pv 0) bF_box) bl1 bl2)) (d' := .int load) (by rw [Int.min_eq_left l1])) A_nil))) ⟨ns, L, load, rfl, hb.1, hb.2, l0, l1, rfl⟩) ht) sm_Bench6.nd rfl (Or.inl rfl) ?_
  refine B_ifR (c := false) (T_to (W.t (W_or (T_isN (E_name 2 rfl (pv 2))) (fun _ => (W_or1 (T_nei (E_sumT rfl B.sum (E_name 2 rfl (pv 2)) tl1 tl2) (E_name 1 rfl (pv 1))))))) (by rw [hsum, decide_eq_true (rfl : load = load)]; rfl)) (fun hc => by cases hc) (fun _ => ?_)
  exact B_ret (E_name 2 rfl (pv 2)) ⟨rfl, rfl⟩
def preBench6X (fs : List (Str × PyData)) (ds : List PyData) (nm : Str) (fo : Fo) : Prop := ∃ (ns L : List Int) (v : PyData), fs = bF ns L ∧ ds = [v] ∧ BOk ns L ∧ fo = none ∧ ((numD v 0 10000 = false ∧ nm = "BadNumber") ∨ ∃ load : Int, v = .int load ∧ 0 ≤ load ∧ load ≤ 10000 ∧ (ns.sum < load ∨ weighD (leftV ns L) load = .none) ∧ nm = "BadStep")
theorem okX_Bench6 (F : Fun K "weigh" "Bench.weigh" m_Bench6 f fd) (B : Bt mg) (C : Ct mg) (yBench : Cls K cBench) (a_box : NoAttr K cBench "_box") (a_lost : NoAttr K cBench "_lost") (xBadNumber : Xc0 K mg "BadNumber" cBadNumber) (xBadStep : Xc0 K mg "BadStep" cBadStep) (F_need_number : Fd P w K mg base 2 "need_number" ["value", "low", "high"] (spV K tb preNeedNum)) (FX_need_number : FdX P w K mg base 2 "need_number" ["value", "low", "high"] (spX K mg tb preNeedNumX)) (F_weigh_losses : Fd P w K mg base 5 "weigh_losses" ["box", "loss", "load"] (spV K tb preWeigh)) : FnOk P w K mg base (L2.CX P w) 6 f fd ["self", "load"] (spMX K mg tb cBench preBench6X) := by
  refine fn_mkMX F sm_Bench6 (fun fs ds nm fo ⟨_, _, _, _, h, _⟩ => by rw [h]; rfl) fun cdv A outer s H E b fs ds nm fo hr tk po hp => ?_
  obtain ⟨ns, L, v, rfl, rfl, hb, rfl, hp⟩ := hp
  rcases hp with ⟨hv, rfl⟩ | ⟨load, rfl, l0, l1, hp, rfl⟩
  · exact B_exprX (EX_call FX_need_number tk (hr.mono (by decide)) rfl (A_cons (E_name 1 rfl (pv 1)) (A_cons E_int (A_cons (E_muls (E_glob C.MOST_WEIGHT) (E_glob C.MOST_WEIGHTS) (by decide)) A_nil))) ⟨_, _, _, rfl, hv, rfl, rfl⟩ xBadNumber.g) ⟨xBadNumber.g, rfl, rfl⟩
  · obtain ⟨s0, s1⟩ := box_sum hb.1
    obtain ⟨bl1, bl2⟩ := box_long hb.1
    refine B_expr (E_call F_need_number (hr.mono (by decide)) rfl (A_cons (E_name 1 rfl (pv 1)) (A_cons E_int (A_cons (E_muls (E_glob C.MOST_WEIGHT) (E_glob C.MOST_WEIGHTS) (by decide)) A_nil))) ⟨_, _, _, rfl, by simp [numD]; omega, rfl⟩) ?_
    refine B_set 2 (d := weighD (leftV ns L) (min load ns.sum)) (E_call F_weigh_losses hr rfl (A_cons (E_fld 0 yBench a_box rfl (pv 0) bF_box) (A_cons (E_fld 0 yBench a_lost rfl (pv 0) bF_lost) (A_cons (E_min2 rfl B.min (E_name 1 rfl (pv 1)) (E_sumT rfl B.sum (E_fld 0 yBench a_box rfl (pv 0) bF_box) bl1 bl2)) A_nil))) ⟨ns, L, min load ns.sum, rfl, hb.1, hb.2, by omega, by omega, rfl⟩) sm_Bench6.nd rfl (Or.inl rfl) ?_
    rcases weighD_cases (leftV ns L) (min load ns.sum) with hw | ⟨t, ht⟩
    · rw [hw]
      exact B_ifR (c := true) (W.t (W_or (c1 := true) (c2 := true) (T_to (T_isN (da := .none) (E_name 2 rfl (pv 2))) rfl) (fun h => by cases h))) (fun _ => B_raise rfl tk (MX_own0 xBadStep rfl) ⟨xBadStep.g, rfl, rfl⟩) (fun hc => by cases hc)
    · rw [ht]
      obtain ⟨tl1, tl2⟩ := taken_long hb.1 ht
      have hsum := (weighD_sum ht).1
      have hne : (!decide (t.sum = load)) = true := by
        rw [decide_eq_false fun z => ?_]; rfl
        rcases hp with hp | hp
        · omega
        · rw [show min load ns.sum = load by omega] at ht
          rw [hp] at ht; cases ht
      exact B_ifR (c := true) (T_to (W.t (W_or (T_isN (da := dT t) (E_name 2 rfl (pv 2))) (fun _ => (W_or1 (T_nei (E_sumT rfl B.sum (E_name 2 rfl (pv 2)) tl1 tl2) (E_name 1 rfl (pv 1))))))) (by rw [hne]; rfl)) (fun _ => B_raise rfl tk (MX_own0 xBadStep rfl) ⟨xBadStep.g, rfl, rfl⟩) (fun hc => by cases hc)

end
end Q

set_option Elab.async false
set_option linter.all false
set_option maxRecDepth 100000
set_option maxHeartbeats 1000000
set_option autoImplicit false
/-! a merchant finds again -/
namespace Q
open PySem PySem.Spec PyProof.Rows L2 D
section
variable {P : Program} {w : World} {K : PySem.W.Frag} {tb : Tbs} {mg : Str → Option Value} {base : Heap} {f : Addr} {fd : FuncData} {cBench cBadBox cBadNumber cBadStep : Addr}
/-! Bench.find: 0 self*, 1 place*, 2 other -/
abbrev m_Bench5 : Stmt := inClass (topS 24) 5
theorem sm_Bench5 : FnScope ["self", "place", "other"] ["self", "place"] (defScope m_Bench5) := ⟨rfl, rfl, rfl, by decide +kernel, rfl, by decide +kernel, by decide +kernel⟩
def preBench5 (fs : List (Str × PyData)) (ds : List PyData) (d : PyData) (fs' : List (Str × PyData)) : Prop := ∃ (ns L : List Int) (p : Int), fs = bF ns L ∧ ds = [.int p] ∧ BOk ns L ∧ 0 ≤ p ∧ p < ns.length ∧ p ∈ L ∧ d = .none ∧ fs' = bF ns (L.filter fun o => !decide (o = p))
theorem ok_Bench5 (F : Fun K "find" "Bench.find" m_Bench5 f fd) (B : Bt mg) (yBench : Cls K cBench) (a_box : NoAttr K cBench "_box") (a_lost : NoAttr K cBench "_lost") (F_need_number : Fd P w K mg base 2 "need_number" ["value", "low", "high"] (spV K tb preNeedNum)) : FnOk P w K mg base CX0 3 f fd ["self", "place"] (spM K tb cBench preBench5) := by
  refine fn_mkM F sm_Bench5 (fun fs ds d fs' ⟨_, _, _, _, h, _⟩ => by rw [h]; rfl) fun cdv A outer s H E b fs ds d fs' hr hp => ?_
  obtain ⟨ns, L, p, rfl, rfl, hb, p0, p1, hp, rfl, rfl⟩ := hp
  have hh := hb.1.hi
  have hl := loss_few hb.2
  refine B_expr (E_call F_need_number hr rfl (A_cons (E_name 1 rfl (pv 1)) (A_cons E_int (A_cons (E_sub (E_lenT B.len (E_fld 0 yBench a_box rfl (pv 0) bF_box)) E_int) A_nil))) ⟨_, _, _, rfl, by simp [numD]; omega, rfl⟩) ?_
  refine B_ifR (c := false) (T_to (T_niT (E_name 1 rfl (pv 1)) (E_fld 0 yBench a_lost rfl (pv 0) bF_lost) rfl) (by rw [decide_eq_true hp]; rfl)) (fun hc => by cases hc) (fun _ => ?_)
  refine B_fld 0 yBench a_lost (E_tupleL B.tuple (E_fz (E_toN (E_lc (own := [("other", 2)]) (xs := L) (enc := PyData.int) (F := fun j S => S.set 2 (.val (.int j))) (fun o => !decide (o = p)) (fun o => o) PyData.int rfl sm_Bench5.nd (I_tup (E_fld 0 yBench a_lost rfl (pv 0) bF_lost)) (blkOk_by (N := ["self", "place", "other"]) (sc := defScope m_Bench5) (by decide +kernel)) (fun _ _ _ _ _ => (pg_name (i := 2) sm_Bench5.nd rfl (Or.inl rfl))) (fun _ x hx => g_name) (by decide) (fun b x hx s H C cl fp => (pts_one (T_nei (E_name 2 rfl (pv 2)) (E_name 1 rfl (pv 1))))) (fun b x hx hp s H C cl fp => (E_to (E_name 2 rfl (pv 2)) rfl)) (fun _ _ => rfl) (sz_lt (by omega)) rfl) (by rw [List.map_id'])))) rfl (pv 0) (Nat.le_of_ble_eq_true rfl) ?_
  exact B_nil ⟨rfl, congrArg (fun z => some (Sl.ins false cBench z)) bF_put⟩
def preBench5X (fs : List (Str × PyData)) (ds : List PyData) (nm : Str) (fo : Fo) : Prop := ∃ (ns L : List Int) (v : PyData), fs = bF ns L ∧ ds = [v] ∧ BOk ns L ∧ fo = none ∧ ((numD v 0 ((ns.length : Int) - 1) = false ∧ nm = "BadNumber") ∨ ∃ p : Int, v = .int p ∧ 0 ≤ p ∧ p < ns.length ∧ p ∉ L ∧ nm = "BadStep")
theorem okX_Bench5 (F : Fun K "find" "Bench.find" m_Bench5 f fd) (B : Bt mg) (yBench : Cls K cBench) (a_box : NoAttr K cBench "_box") (a_lost : NoAttr K cBench "_lost") (xBadNumber : Xc0 K mg "BadNumber" cBadNumber) (xBadStep : Xc0 K mg "BadStep" cBadStep) (F_need_number : Fd P w K mg base 2 "need_number" ["value", "low", "high"] (spV K tb preNeedNum)) (FX_need_number : FdX P w K mg base 2 "need_number" ["value", "low", "high"] (spX K mg tb preNeedNumX)) : FnOk P w K mg base (L2.CX P w) 3 f fd ["self", "place"] (spMX K mg tb cBench preBench5X) := by
  refine fn_mkMX F sm_Bench5 (fun fs ds nm fo ⟨_, _, _, _, h, _⟩ => by rw [h]; rfl) fun cdv A outer s H E b fs ds nm fo hr tk po hp => ?_
  obtain ⟨ns, L, v, rfl, rfl, hb, rfl, hp⟩ := hp
  rcases hp with ⟨hv, rfl⟩ | ⟨p, rfl, p0, p1, hp, rfl⟩
  · exact B_exprX (EX_call FX_need_number tk hr rfl (A_cons (E_name 1 rfl (pv 1)) (A_cons E_int (A_cons (E_sub (E_lenT B.len (E_fld 0 yBench a_box rfl (pv 0) bF_box)) E_int) A_nil))) ⟨_, _, _, rfl, hv, rfl, rfl⟩ xBadNumber.g) ⟨xBadNumber.g, rfl, rfl⟩
  · refine B_expr (E_call F_need_number hr rfl (A_cons (E_name 1 rfl (pv 1)) (A_cons E_int (A_cons (E_sub (E_lenT B.len (E_fld 0 yBench a_box rfl (pv 0) bF_box)) E_int) A_nil))) ⟨_, _, _, rfl, by simp [numD]; omega, rfl⟩) ?_
    exact B_ifR (c := true) (T_to (T_niT (E_name 1 rfl (pv 1)) (E_fld 0 yBench a_lost rfl (pv 0) bF_lost) rfl) (by rw [decide_eq_false hp]; rfl)) (fun _ => B_raise rfl tk (MX_own0 xBadStep rfl) ⟨xBadStep.g, rfl, rfl⟩) (fun hc => by cases hc)

end
end Q

set_option Elab.async false
set_option linter.all false
set_option maxRecDepth 100000
set_option maxHeartbeats 1000000
set_option autoImplicit false
/-! _law_alike of a value and itself -/
namespace Q
open PySem PySem.Spec PyProof.Rows L2 D
/-- values nested at most so deep -/
def alD : Nat → PyData → Prop
  | 0, .int _ => True
  | 0, .bool _ => True
  | 0, .none => True
  | 0, .str x => SeqAt.shaped (.str x) = true
  | 0, _ => False
  | n + 1, .tuple xs => xs.length ≤ 100000 ∧ ∀ x ∈ xs, alD n x
  | n + 1, .list xs => xs.length ≤ 100000 ∧ ∀ x ∈ xs, alD n x
  | _ + 1, .dict _ => False
  | _ + 1, .str x => SeqAt.shaped (.str x) = true
  | _ + 1, _ => True
def preAlike (n : Nat) (ds : List PyData) (r : PyData) : Prop := ∃ d, ds = [d, d] ∧ alD n d ∧ r = .bool true
section
variable {P : Program} {w : World} {K : PySem.W.Frag} {tb : Tbs} {mg : Str → Option Value} {base : Heap} {f : Addr} {fd : FuncData}
end
end Q

set_option Elab.async false
set_option linter.all false
set_option maxRecDepth 100000
set_option maxHeartbeats 1000000
set_option autoImplicit false
/-! shapes of lists and tuples of ints -/
namespace Q
open PySem PySem.Spec PyProof.Rows L2 D
theorem can_ints : ∀ ns : List Int, PyData.canLayAll0 (ns.map PyData.int) = true
  | [] => rfl
  | n :: ns => by simpa [PyData.canLayAll0, PyData.canLay0] using can_ints ns
theorem dep_ints : ∀ ns : List Int, PyData.depthAll (ns.map PyData.int) = 0
  | [] => rfl
  | n :: ns => by simpa [PyData.depthAll, PyData.depth] using dep_ints ns
theorem shaped_dT (ns : List Int) : SeqAt.shaped (dT ns) = true := by
  simp [SeqAt.shaped, PyData.canLay0, PyData.depth, can_ints ns, dep_ints ns]
theorem shaped_dL (ns : List Int) : SeqAt.shaped (dL ns) = true := by
  simp [SeqAt.shaped, PyData.canLay0, PyData.depth, can_ints ns, dep_ints ns]
theorem eqv_ints : ∀ ns : List Int, PyData.eqvAll (ns.map PyData.int) (ns.map PyData.int) = true
  | [] => rfl
  | n :: ns => by simp [PyData.eqvAll, PyData.eqv, eqv_ints ns]
theorem eqv_dL (ns : List Int) : PyData.eqv (dL ns) (dL ns) = true := by
  simp [PyData.eqv, eqv_ints ns]
theorem eqv_dT (ns : List Int) : PyData.eqv (dT ns) (dT ns) = true := by
  simp [PyData.eqv, eqv_ints ns]
theorem nel_unit (ns : List Int) : (!PyData.eqv (dL ns) (dL [])) = !ns.isEmpty := by
  cases ns with
  | nil => rfl
  | cons x ns => simp [PyData.eqv, PyData.eqvAll]
theorem al_ints (ns : List Int) (h : ns.length ≤ 100000) : alD 1 (dT ns) := ⟨by rw [List.length_map]; exact h, fun y hy => by obtain ⟨i, _, rfl⟩ := List.mem_map.mp hy; trivial⟩
theorem al_tups (ts : List (List Int)) (h : ts.length ≤ 100000) (h2 : ∀ t ∈ ts, t.length ≤ 100000) : alD 2 (.tuple (ts.map dT)) := ⟨by rw [List.length_map]; exact h, fun y hy => by obtain ⟨i, hi, rfl⟩ := List.mem_map.mp hy; exact al_ints i (h2 i hi)⟩
theorem box_long2 {ns : List Int} (h : IsBox ns) : (∀ k, k ≤ ns.length → InLong ((ns.take k).sum)) ∧ (∀ n ∈ ns, InLong n) := by
  have h0 : ∀ x ∈ ns, 0 ≤ x := fun x hx => by have := h.pos x hx; omega
  have hs : ns.sum ≤ 1000 * ns.length := sum_le_mul fun x hx => (h.pos x hx).2
  have hh := h.hi
  refine ⟨fun k _ => ?_, fun n hn => ?_⟩
  · have a1 := sum_sub_le (List.take_sublist k ns) h0
    have a2 := sum_sub_le (List.nil_sublist (ns.take k)) fun x hx => h0 x (List.mem_of_mem_take hx)
    have a2' : 0 ≤ (ns.take k).sum := a2
    unfold InLong
    omega
  · have := h.pos n hn
    unfold InLong
    omega
end Q

set_option Elab.async false
set_option linter.all false
set_option maxRecDepth 100000
set_option maxHeartbeats 1000000
set_option autoImplicit false
/-! the law's own lots, rests and reaches -/
namespace Q
open PySem PySem.Spec PyProof.Rows L2 D
section
variable {P : Program} {w : World} {K : PySem.W.Frag} {tb : Tbs} {mg : Str → Option Value} {base : Heap} {f : Addr} {fd : FuncData}

/-! _law_rest: 0 _law_box_here, 1 _law_loss*, 2 _law_place -/
abbrev s_law_rest : Stmt := topS 39
theorem sc_law_rest : FnScope ["_law_box_here", "_law_loss", "_law_place"] ["_law_box_here", "_law_loss"] (defScope s_law_rest) := ⟨rfl, rfl, rfl, by decide +kernel, rfl, by decide +kernel, by decide +kernel⟩
def preLRest (ds : List PyData) (d : PyData) : Prop := ∃ (ns L : List Int) (v : PyData), ds = [dT ns, v] ∧ (v = dT L ∨ v = dL L) ∧ ns.length ≤ 1000 ∧ d = .list ((keepN ns.length L).map fun (i : Nat) => PyData.int (i : Int))
theorem ok_law_rest (F : Fun K "_law_rest" "_law_rest" s_law_rest f fd) (hm : mg "_law_rest" = some (.ref f)) (B : Bt mg) : Fd P w K mg base 1 "_law_rest" ["_law_box_here", "_law_loss"] (spV K tb preLRest) := by
  refine fd_mk F sc_law_rest hm (fun _ _ _ _ _ _ us hl => match us, hl with | [_, _], _ => rfl) (fun ds d ⟨_, _, _, h, _⟩ => by rw [h]; rfl) fun cdv A outer s H E b ds d hr hp => ?_
  obtain ⟨ns, L, v, rfl, hv, hz, rfl⟩ := hp
  refine B_ret (E_fz (E_lc (own := [("_law_place", 2)]) (xs := List.range ns.length) (enc := fun (m : Nat) => PyData.int (m : Int)) (F := fun m S => S.set 2 (.val (.int (m : Int)))) (fun m => !decide ((m : Int) ∈ L)) (fun m => m) (fun (m : Nat) => PyData.int (m : Int)) rfl sc_law_rest.nd (I_rangeN B.range (E_lenT B.len (E_name 0 rfl (pv 0))) rfl (by omega)) (blkOk_by (N := ["_law_box_here", "_law_loss", "_law_place"]) (sc := defScope s_law_rest) (by decide +kernel)) (fun _ _ _ _ _ => (pg_name (i := 2) sc_law_rest.nd rfl (Or.inl rfl))) (fun _ x hx => g_name) (by decide) (fun b x hx s H C cl fp => (pts_one (T_niS hv (E_name 2 rfl (pv 2)) (E_name 1 rfl (pv 1)) rfl))) (fun b x hx hp s H C cl fp => (E_name 2 rfl (pv 2))) (fun _ _ => rfl) (sz_lt (by rw [List.length_range]; omega)) rfl)) ?_
  show PyData.list _ = _
  rw [List.map_id']
  rfl

/-! _law_reach: 0 _law_weights, 1 _law_load, 2 _law_weight -/
abbrev s_law_reach : Stmt := topS 40
theorem sc_law_reach : FnScope ["_law_weights", "_law_load", "_law_weight"] ["_law_weights"] (defScope s_law_reach) := ⟨rfl, rfl, rfl, by decide +kernel, rfl, by decide +kernel, by decide +kernel⟩
def preLReach (ds : List PyData) (d : PyData) : Prop := ∃ (ws : List Int) (v : PyData), ds = [v] ∧ (v = dT ws ∨ v = dL ws) ∧ ws.length < 64 ∧ ws.Pairwise (· ≤ ·) ∧ (∀ x ∈ ws, 0 ≤ x) ∧ d = .int (reachV ws)
theorem ok_law_reach (F : Fun K "_law_reach" "_law_reach" s_law_reach f fd) (hm : mg "_law_reach" = some (.ref f)) (B : Bt mg) : Fd P w K mg base 1 "_law_reach" ["_law_weights"] (spV K tb preLReach) := by
  refine fd_mk F sc_law_reach hm (fun _ _ _ _ _ _ us hl => match us, hl with | [_], _ => rfl) (fun ds d ⟨_, _, h, _⟩ => by rw [h]; rfl) fun cdv A outer s H E b ds d hr hp => ?_
  obtain ⟨ws, v, rfl, hv, hz, hu, h0, rfl⟩ := hp
  have hs := sortI_id hu
  refine B_set 1 (d := .int ((ws.take 0).foldl growI 0)) E_int sc_law_reach.nd rfl (Or.inl rfl) ?_
  refine B_then (Mid := fun S' => ∃ v2, S' = [.val v, .val (.int (ws.foldl growI 0)), v2])
    (B_for (xs := ws) (enc := PyData.int) (F := fun x S => S.set 2 (.val (.int x))) (fun i S' => ∃ v2, S' = [.val v, .val (.int ((ws.take i).foldl growI 0)), v2]) PassesOwn.never rfl (I_list (E_fz (E_toN (E_sortedS hv B.sorted (E_name 0 rfl (pv 0)) hz) (by rw [hs])))) (pg_name (i := 2) sc_law_reach.nd rfl (Or.inl rfl)) (fun x hx => g_name) ⟨_, rfl⟩ (fun i x S' hx hI => ?_) (fun S' h => by rw [List.take_length] at h; exact h)) (fun S' h => ?_)
  · obtain ⟨v2, rfl⟩ := hI
    have e : ws.take (i + 1) = ws.take i ++ [x] := by rw [List.take_succ, hx]; rfl
    have eg : (ws.take (i + 1)).foldl growI 0 = growI ((ws.take i).foldl growI 0) x := by rw [e, List.foldl_append]; rfl
    rw [eg]
    generalize (ws.take i).foldl growI 0 = r
    refine B_ifS (Sa := [.val v, .val (.int (r + x)), .val (.int x)]) (Sb := [.val v, .val (.int r), .val (.int x)]) (T_le (E_name 2 rfl (pv 2)) (E_add (E_name 1 rfl (pv 1)) E_int)) (fun hc => B_set 1 (E_add (E_name 1 rfl (pv 1)) (E_name 2 rfl (pv 2))) sc_law_reach.nd rfl (Or.inl rfl) (B_nil rfl)) (fun hc => B_nil rfl) (fun hc => B_nil ⟨.val (.int x), ?_⟩) (fun hc => B_nil ⟨.val (.int x), ?_⟩)
    · have h : x ≤ r + 1 := of_decide_eq_true hc
      unfold growI
      rw [if_pos h]
    · have h : ¬ x ≤ r + 1 := of_decide_eq_false hc
      unfold growI
      rw [if_neg h]
  · obtain ⟨v2, rfl⟩ := h
    refine B_ret (E_name 1 rfl (pv 1)) ?_
    rw [grow_reach _ ws rfl hu h0]
    rfl

/-! _law_left: 0 _law_box_here*, 1 _law_loss, 2 _law_place -/
abbrev s_law_left : Stmt := topS 41
theorem sc_law_left : FnScope ["_law_box_here", "_law_loss", "_law_place"] ["_law_box_here", "_law_loss"] (defScope s_law_left) := ⟨rfl, rfl, rfl, by decide +kernel, rfl, by decide +kernel, by decide +kernel⟩
def preLLeft (ds : List PyData) (d : PyData) : Prop := ∃ (ns L : List Int) (v : PyData), ds = [dT ns, v] ∧ (v = dT L ∨ v = dL L) ∧ ns.length ≤ 1000 ∧ d = dL (leftV ns L)
theorem ok_law_left (F : Fun K "_law_left" "_law_left" s_law_left f fd) (hm : mg "_law_left" = some (.ref f)) (F_law_rest : Fd P w K mg base 1 "_law_rest" ["_law_box_here", "_law_loss"] (spV K tb preLRest)) : Fd P w K mg base 2 "_law_left" ["_law_box_here", "_law_loss"] (spV K tb preLLeft) := by
  refine fd_mk F sc_law_left hm (fun _ _ _ _ _ _ us hl => match us, hl with | [_, _], _ => rfl) (fun ds d ⟨_, _, _, h, _⟩ => by rw [h]; rfl) fun cdv A outer s H E b ds d hr hp => ?_
  obtain ⟨ns, L, v, rfl, hv, hz, rfl⟩ := hp
  have hk : (keepN ns.length L).length ≤ ns.length := by
    have := List.length_filter_le (fun m : Nat => !decide ((m : Int) ∈ L)) (List.range ns.length)
    rw [List.length_range] at this
    exact this
  refine B_ret (E_fz (E_toN (E_lc (own := [("_law_place", 2)]) (xs := keepN ns.length L) (enc := fun (m : Nat) => PyData.int (m : Int)) (F := fun m S => S.set 2 (.val (.int (m : Int)))) (fun _ => true) (fun m => ns.getD m 0) PyData.int rfl sc_law_left.nd (I_list (E_call F_law_rest hr rfl (A_cons (E_name 0 rfl (pv 0)) (A_cons (E_name 1 rfl (pv 1)) A_nil)) ⟨ns, L, v, rfl, hv, hz, rfl⟩)) (blkOk_by (N := ["_law_box_here", "_law_loss", "_law_place"]) (sc := defScope s_law_left) (by decide +kernel)) (fun _ _ _ _ _ => (pg_name (i := 2) sc_law_left.nd rfl (Or.inl rfl))) (fun _ x hx => g_name) (by decide) (fun b x hx s H C cl fp => PTs_nil) (fun b x hx hp s H C cl fp => (E_ixTi (n := ns.getD x 0) (E_name 0 rfl (pv 0)) (E_name 2 rfl (pv 2)) (by have := List.mem_range.mp (List.mem_filter.mp hx).1; exact atI_getD (k := (x : Int)) (by omega) (by omega)))) (fun _ _ => rfl) (sz_lt (by omega)) rfl) (by rw [List.filter_eq_self.mpr (fun _ _ => rfl)]; rfl))) rfl
end
end Q

set_option Elab.async false
set_option linter.all false
set_option maxRecDepth 100000
set_option maxHeartbeats 1000000
set_option autoImplicit false
/-! the law's draws -/
namespace Q
open PySem PySem.Spec PyProof.Rows L2 D
section
variable {P : Program} {w : World} {K : PySem.W.Frag} {tb : Tbs} {mg : Str → Option Value} {base : Heap} {f : Addr} {fd : FuncData}

/-! _law_taken: 0 _law_row, 1 _law_many, 2 _law_found, 3 _law_cell -/
abbrev s_law_taken : Stmt := topS 36
theorem sc_law_taken : FnScope ["_law_row", "_law_many", "_law_found", "_law_cell"] ["_law_row", "_law_many"] (defScope s_law_taken) := ⟨rfl, rfl, rfl, by decide +kernel, rfl, by decide +kernel, by decide +kernel⟩
def preTaken (xs ds : List PyData) (d : PyData) (xs' : List PyData) : Prop := ∃ (sc : List Int) (w : Dw) (many : Int), xs = rowD sc w ∧ ds = [.int many] ∧ RowOk w ∧ 0 < many ∧ many < 1073741824 ∧ d = .int (takenV sc w many).1 ∧ xs' = rowD sc (takenV sc w many).2
theorem ok_law_taken (F : Fun K "_law_taken" "_law_taken" s_law_taken f fd) (hm : mg "_law_taken" = some (.ref f)) (B : Bt mg) : Fd P w K mg base 1 "_law_taken" ["_law_row", "_law_many"] (spR K tb preTaken) := by
  refine fd_mkR F sc_law_taken hm (fun _ _ _ _ _ _ us hl => match us, hl with | [_, _], _ => rfl) (fun xs ds d xs' ⟨_, _, _, _, h, _⟩ => by rw [h]; rfl) fun cdv A outer s H E b xs ds d xs' hr hp => ?_
  obtain ⟨sc, ⟨c, sd, r⟩, many, rfl, rfl, ok, h0, h1, rfl, rfl⟩ := hp
  have c0 : 0 ≤ c := ok.c0
  have s0 : 0 ≤ sd := ok.s0
  have s1 : sd < 2147483647 := ok.s1
  refine B_ifR (T_gt (j := 0) (i := r) (E_ixO 0 rfl (pv 0) E_int rfl) E_int) (fun hc => ?_) (fun hc => ?_)
  · have hr0 := of_decide_eq_true hc
    refine B_set 2 (E_mod (E_int1 B.int (E_ixO (d := .int r) 0 rfl (pv 0) E_int rfl)) (E_name 1 rfl (pv 1)) h0) sc_law_taken.nd rfl (Or.inl rfl) ?_
    refine B_setIx 0 (j := 3) (E_fdiv (E_ixO (d := .int r) 0 rfl (pv 0) E_int rfl) (E_name 1 rfl (pv 1)) ⟨h0, h1⟩) rfl (pg_sub (pv 0) E_int set_list) rfl ?_
    refine B_ret (E_name 2 rfl (pv 2)) ⟨?_, ?_⟩
    · rw [takenV, if_pos hr0]
    · rw [takenV, if_pos hr0]; rfl
  have hr0 := of_decide_eq_false hc
  refine B_setIx 0 (j := 1) (E_add (i := c) (E_ixO 0 rfl (pv 0) E_int rfl) E_int) rfl (pg_sub (pv 0) E_int set_list) rfl ?_
  refine B_ifR (T_gt (i := c + 1) (j := (sc.map PyData.int).length) (E_ixO 0 rfl (pv 0) E_int rfl) (E_len (d := scrD sc) B.len (E_ixO 0 rfl (pv 0) E_int rfl) rfl)) (fun hc => ?_) (fun hc => ?_)
  · have hl := of_decide_eq_true hc
    rw [List.length_map] at hl
    refine B_setIx 0 (j := 2) (E_mod (i := sd * 48271 + 11) (E_int1 B.int (E_add (E_muls (i := sd) (E_ixO 0 rfl (pv 0) E_int rfl) E_int (by omega)) E_int)) E_int (by decide)) rfl (pg_sub (pv 0) E_int set_list) rfl ?_
    refine B_ret (E_mod (E_int1 B.int (E_fdiv (i := (sd * 48271 + 11) % 2147483647) (E_ixO 0 rfl (pv 0) E_int rfl) E_int ⟨by decide, by decide⟩)) (E_name 1 rfl (pv 1)) h0) ⟨?_, ?_⟩
    · rw [takenV, if_neg hr0, if_pos hl]
    · rw [takenV, if_neg hr0, if_pos hl]; rfl
  have hl := of_decide_eq_false hc
  rw [List.length_map] at hl
  refine B_set 3 (d := .int (sc.getD c.toNat 0)) (E_ixS (E_ixO (d := scrD sc) 0 rfl (pv 0) E_int rfl) (E_sub (i := c + 1) (E_ixO 0 rfl (pv 0) E_int rfl) E_int) ?_) sc_law_taken.nd rfl (Or.inl rfl) ?_
  · have := atI_getD (l := sc) (k := c + 1 - 1) (by omega) (by omega)
    rw [show (c + 1 - 1).toNat = c.toNat by omega] at this
    exact this
  refine B_setIx 0 (j := 2) (E_mod (i := sd * 48271 + sc.getD c.toNat 0 + 11) (E_int1 B.int (E_add (E_add (E_muls (i := sd) (E_ixO 0 rfl (pv 0) E_int rfl) E_int (by omega)) (E_name 3 rfl (pv 3))) E_int)) E_int (by decide)) rfl (pg_sub (pv 0) E_int set_list) rfl ?_
  refine B_ifS (Sa := [.own false (rowD sc ⟨c + 1, mix sd (sc.getD c.toNat 0), sc.getD c.toNat 0 / many⟩), .val (.int many), .emp, .val (.int (sc.getD c.toNat 0))]) (Sb := [.own false (rowD sc ⟨c + 1, mix sd (sc.getD c.toNat 0), r⟩), .val (.int many), .emp, .val (.int (sc.getD c.toNat 0))])
    (T_ge (E_name 3 rfl (pv 3)) (E_pow (i := 10) (j := 18) E_int E_int (by unfold CPow; decide))) (fun hc => ?_) (fun hc => ?_) (fun hc => ?_) (fun hc => ?_)
  · refine B_setIx 0 (j := 3) (E_fdiv (E_name 3 rfl (pv 3)) (E_name 1 rfl (pv 1)) ⟨h0, h1⟩) rfl (pg_sub (pv 0) E_int set_list) rfl (B_nil rfl)
  · exact B_nil rfl
  · refine B_ret (E_mod (E_int1 B.int (E_name 3 rfl (pv 3))) (E_name 1 rfl (pv 1)) h0) ⟨?_, ?_⟩
    · rw [takenV, if_neg hr0, if_neg hl]
    · rw [takenV, if_neg hr0, if_neg hl, cellRest, if_pos (of_decide_eq_true hc)]; rfl
  · refine B_ret (E_mod (E_int1 B.int (E_name 3 rfl (pv 3))) (E_name 1 rfl (pv 1)) h0) ⟨?_, ?_⟩
    · rw [takenV, if_neg hr0, if_neg hl]
    · rw [takenV, if_neg hr0, if_neg hl, cellRest, if_neg (of_decide_eq_false hc)]; rfl
end
end Q

set_option Elab.async false
set_option linter.all false
set_option maxRecDepth 100000
set_option maxHeartbeats 1000000
set_option autoImplicit false
/-! the law's boxes -/
namespace Q
open PySem PySem.Spec PyProof.Rows L2 D
section
variable {P : Program} {w : World} {K : PySem.W.Frag} {tb : Tbs} {mg : Str → Option Value} {base : Heap} {f : Addr} {fd : FuncData}


/-! _law_box: 0 _law_row, 1 _law_most, 2 _law_top, 3 _law_many, 4 _law_found, 5 _law_kind, 6 _law_place, 7 _law_back -/
abbrev s_law_box : Stmt := topS 38
theorem sc_law_box : FnScope ["_law_row", "_law_most", "_law_top", "_law_many", "_law_found", "_law_kind", "_law_place", "_law_back"] ["_law_row", "_law_most", "_law_top"] (defScope s_law_box) := ⟨rfl, rfl, rfl, by decide +kernel, rfl, by decide +kernel, by decide +kernel⟩
def preLBox (xs ds : List PyData) (d : PyData) (xs' : List PyData) : Prop := ∃ (sc : List Int) (w : Dw) (most top : Int), xs = rowD sc w ∧ ds = [.int most, .int top] ∧ RowOk w ∧ 0 < most ∧ most ≤ 60 ∧ 0 < top ∧ top < 1073741824 ∧ d = dT (boxV sc w most top).1 ∧ xs' = rowD sc (boxV sc w most top).2
theorem ok_law_box (F : Fun K "_law_box" "_law_box" s_law_box f fd) (hm : mg "_law_box" = some (.ref f)) (B : Bt mg) (F_law_taken : Fd P w K mg base 1 "_law_taken" ["_law_row", "_law_many"] (spR K tb preTaken)) : Fd P w K mg base 2 "_law_box" ["_law_row", "_law_most", "_law_top"] (spR K tb preLBox) := by
  refine fd_mkR F sc_law_box hm (fun _ _ _ _ _ _ us hl => match us, hl with | [_, _, _], _ => rfl) (fun xs ds d xs' ⟨_, _, _, _, _, h, _⟩ => by rw [h]; rfl) fun cdv A outer s H E b xs ds d xs' hr hp => ?_
  obtain ⟨sc, w0, most, top, rfl, rfl, ok, m0, m1, t0, t1, rfl, rfl⟩ := hp
  have m := takenV_ok (sc := sc) ok m0
  have k := takenV_ok (sc := sc) (many := 4) m.2.2 (by decide)
  have bx := boxAt_ok (sc := sc) (top := top) t0 k.1 k.2.2
  -- _law_many, _law_found = (1 + _law_taken(_law_row, _law_most), [])
  refine B_parN 3 4 (E_add E_int (E_callR 0 F_law_taken hr rfl (pv 0) (A_cons (E_name 1 rfl (pv 1)) A_nil) rfl ⟨_, rfl⟩ ⟨sc, w0, most, rfl, rfl, ok, m0, by omega, rfl, rfl⟩)) (E_lstD A_nil) rfl sc_law_box.nd rfl rfl (by decide) rfl rfl ?_
  -- _law_kind = _law_taken(_law_row, 4)
  refine B_set 5 (E_callR 0 F_law_taken hr rfl (pv 0) (A_cons E_int A_nil) rfl ⟨_, rfl⟩ ⟨sc, _, 4, rfl, rfl, m.2.2, by decide, by decide, rfl, rfl⟩) sc_law_box.nd rfl (Or.inl rfl) ?_
  -- for _law_place in range(_law_many):
  let st := boxAt sc top (takenV sc (takenV sc w0 most).2 4).1 (takenV sc (takenV sc w0 most).2 4).2
  refine B_then (Mid := fun S' => ∃ v6 v7, S' = [.own false (rowD sc (st (1 + (takenV sc w0 most).1).toNat).2), .val (.int most), .val (.int top), .val (.int (1 + (takenV sc w0 most).1)), .own true ((st (1 + (takenV sc w0 most).1).toNat).1.map .int), .val (.int (takenV sc (takenV sc w0 most).2 4).1), v6, v7])
    (B_for (xs := List.range (1 + (takenV sc w0 most).1).toNat) (enc := fun (m : Nat) => PyData.int (m : Int)) (F := fun m S => S.set 6 (.val (.int (m : Int)))) (fun i S' => ∃ v6 v7, S' = [.own false (rowD sc (st i).2), .val (.int most), .val (.int top), .val (.int (1 + (takenV sc w0 most).1)), .own true ((st i).1.map .int), .val (.int (takenV sc (takenV sc w0 most).2 4).1), v6, v7]) PassesOwn.never rfl (I_range1 B.range (E_name 3 rfl (pv 3)) (by omega) (by omega)) (pg_name (i := 6) sc_law_box.nd rfl (Or.inl rfl)) (fun x hx => g_name) ⟨_, _, rfl⟩ (fun i x S' hx hI => ?_) (fun S' h => by rw [List.length_range] at h; exact h)) (fun S' h => ?_)
  · obtain ⟨v6, v7, rfl⟩ := hI
    obtain ⟨hi, ex⟩ : i < (1 + (takenV sc w0 most).1).toNat ∧ x = i := by
      by_cases c : i < (1 + (takenV sc w0 most).1).toNat
      · rw [List.getElem?_range c] at hx; cases hx; exact ⟨c, rfl⟩
      · rw [List.getElem?_eq_none (by simpa using c)] at hx; cases hx
    subst ex
    have b3 := (bx x).2.2
    have ld := (bx x).1
    have hsz : ((st x).1.map PyData.int).length < sizeLine := sz_lt (by rw [List.length_map]; show (boxAt sc top _ _ x).1.length < _; omega)
    -- if _law_kind == 0:
    refine B_if (Mid := fun S' => ∃ v6 v7, S' = [.own false (rowD sc (st (x + 1)).2), .val (.int most), .val (.int top), .val (.int (1 + (takenV sc w0 most).1)), .own true ((st (x + 1)).1.map .int), .val (.int (takenV sc (takenV sc w0 most).2 4).1), v6, v7]) (T_eqi (E_name 5 rfl (pv 5)) E_int) (fun hc => ?_) (fun hc => ?_) (fun S' h => B_nil h)
    · have hk := of_decide_eq_true hc
      refine B_app 4 rfl (pv 4) (E_add E_int (E_callR 0 F_law_taken hr rfl (pv 0) (A_cons (E_name 2 rfl (pv 2)) A_nil) rfl ⟨_, rfl⟩ ⟨sc, _, top, rfl, rfl, b3, t0, t1, rfl, rfl⟩)) rfl hsz (B_nil ⟨.val (.int (x : Int)), v7, ?_⟩)
      show (_ : List Sl) = [.own false (rowD sc (boxStep sc top _ x (st x)).2), _, _, _, .own true ((boxStep sc top _ x (st x)).1.map .int), _, _, _]
      rw [boxStep, if_pos hk, List.map_append]
      rfl
    · have hk := of_decide_eq_false hc
      have t := takenV_ok (sc := sc) (many := (takenV sc (takenV sc w0 most).2 4).1) b3 (by omega)
      refine B_set 7 (E_callR 0 F_law_taken hr rfl (pv 0) (A_cons (E_name 5 rfl (pv 5)) A_nil) rfl ⟨_, rfl⟩ ⟨sc, _, _, rfl, rfl, b3, by omega, by omega, rfl, rfl⟩) sc_law_box.nd rfl (Or.inl rfl) ?_
      refine B_app 4 rfl (pv 4) (E_max2 rfl B.max E_int (E_min2 rfl B.min (E_name 2 rfl (pv 2)) (E_add (E_sumL rfl B.sum (E_fz (E_toN (E_slO 4 rfl (pv 4) O_none (O_some (E_max2 rfl B.max E_int (E_sub (E_name 6 rfl (pv 6)) (E_name 7 rfl (pv 7)))))) (cut_map PyData.int _ _ _)))) (E_callR 0 F_law_taken hr rfl (pv 0) (A_cons E_int A_nil) rfl ⟨_, rfl⟩ ⟨sc, _, 3, rfl, rfl, t.2.2, by decide, by decide, rfl, rfl⟩)))) rfl hsz (B_nil ⟨.val (.int (x : Int)), .val (.int (takenV sc (st x).2 (takenV sc (takenV sc w0 most).2 4).1).1), ?_⟩)
      show (_ : List Sl) = [.own false (rowD sc (boxStep sc top _ x (st x)).2), _, _, _, .own true ((boxStep sc top _ x (st x)).1.map .int), _, _, _]
      rw [boxStep, if_neg hk, List.map_append]
      rfl
  · obtain ⟨v6, v7, rfl⟩ := h
    have ld := (bx (1 + (takenV sc w0 most).1).toNat).1
    -- return tuple(sorted(_law_found))
    exact B_ret (E_tupleL B.tuple (E_fz (E_sortedO 4 B.sorted rfl (pv 4) (by show (boxAt sc top _ _ _).1.length < 64; omega)))) ⟨rfl, rfl⟩
end
end Q

set_option Elab.async false
set_option linter.all false
set_option maxRecDepth 100000
set_option maxHeartbeats 1000000
set_option autoImplicit false
/-! _law_pick -/
namespace Q
open PySem PySem.Spec PyProof.Rows L2 D
section
variable {P : Program} {w : World} {K : PySem.W.Frag} {tb : Tbs} {mg : Str → Option Value} {base : Heap} {f : Addr} {fd : FuncData}
/-! _law_pick: 0 _law_row, 1 _law_things -/
abbrev s_law_pick : Stmt := topS 37
theorem sc_law_pick : FnScope ["_law_row", "_law_things"] ["_law_row", "_law_things"] (defScope s_law_pick) := ⟨rfl, rfl, rfl, by decide +kernel, rfl, by decide +kernel, by decide +kernel⟩
def preLPick (xs ds : List PyData) (d : PyData) (xs' : List PyData) : Prop := ∃ (sc : List Int) (w0 : Dw) (ts : List PyData), xs = rowD sc w0 ∧ ds = [.list ts] ∧ RowOk w0 ∧ 0 < ts.length ∧ ts.length ≤ 100000 ∧ ts[(takenV sc w0 ts.length).1.toNat]? = some d ∧ xs' = rowD sc (takenV sc w0 ts.length).2
theorem ok_law_pick (F : Fun K "_law_pick" "_law_pick" s_law_pick f fd) (hm : mg "_law_pick" = some (.ref f)) (B : Bt mg) (F_law_taken : Fd P w K mg base 1 "_law_taken" ["_law_row", "_law_many"] (spR K tb preTaken)) : Fd P w K mg base 2 "_law_pick" ["_law_row", "_law_things"] (spR K tb preLPick) := by
  refine fd_mkR F sc_law_pick hm (fun _ _ _ _ _ _ us hl => match us, hl with | [_, _], _ => rfl) (fun xs ds d xs' ⟨_, _, _, _, h, _⟩ => by rw [h]; rfl) fun cdv A outer s H E b xs ds d xs' hr hp => ?_
  obtain ⟨sc, w0, ts, rfl, rfl, ok, t0, t1, hd, rfl⟩ := hp
  have t := takenV_ok (sc := sc) (many := (ts.length : Int)) ok (by omega)
  refine B_ret (E_ixL (xs := ts) (E_name 1 rfl (pv 1)) (E_callR 0 F_law_taken hr rfl (pv 0) (A_cons (E_len B.len (E_name 1 rfl (pv 1)) rfl) A_nil) rfl ⟨_, rfl⟩ ⟨sc, w0, (ts.length : Int), rfl, rfl, ok, by omega, by omega, rfl, rfl⟩) ?_) ⟨rfl, rfl⟩
  have e : (takenV sc w0 (ts.length : Int)).1 = (((takenV sc w0 (ts.length : Int)).1.toNat : Nat) : Int) := by omega
  rw [e]
  exact atI_get hd
end
end Q

set_option Elab.async false
set_option linter.all false
set_option maxRecDepth 100000
set_option maxHeartbeats 1000000
set_option autoImplicit false
/-! Ds1: texts: sums, str(..), join, equality, a global tuple. -/
namespace D
open PySem PySem.Spec PyProof.Rows L2
/-- the text of a number -/
abbrev numS (n : Int) : Str := Str.ofString (toString n)
abbrev sL (ys : List Str) : List PyData := ys.map PyData.str
theorem RpA.strs {K : PySem.W.Frag} {G : Hp} : ∀ {vs : List V} {ys : List Str}, RpA K G vs (ys.map PyData.str) → vs = ys.map V.str
  | _, [], h => by cases h; rfl
  | _, n :: ns, h => by
    cases h with
    | cons h t => cases h; rw [RpA.strs t]; rfl
theorem numS_len {n : Int} {k : Nat} (hk : 0 < k) (h0 : 0 ≤ n) (h : n < 10 ^ k) : (numS n).length ≤ k := by
  obtain ⟨m, rfl⟩ : ∃ m : Nat, n = (m : Int) := ⟨n.toNat, by omega⟩
  rw [TL.len_tl]
  show (TL.tl (Str.ofString (toString ((m : Nat) : Int)))).length ≤ k
  rw [TL.tl_num]
  exact TL.numL_len hk (by exact_mod_cast h)
theorem join_len (y : Str) : ∀ parts : List Str, (Str.join y parts).length ≤ (parts.map (·.length)).sum + parts.length * y.length
  | [] => Nat.zero_le _
  | [x] => by
    show x.length ≤ x.length + 0 + 1 * y.length
    omega
  | x :: z :: r => by
    have h := join_len y (z :: r)
    show (x ++ y ++ Str.join y (z :: r)).length ≤ _
    rw [Str.length_append, Str.length_append, List.map_cons, List.sum_cons, List.length_cons, Nat.add_mul, Nat.one_mul]
    omega
theorem sum_le_of {ys : List Str} {k : Nat} (h : ∀ y ∈ ys, y.length ≤ k) : (ys.map (·.length)).sum ≤ ys.length * k := by
  induction ys with
  | nil => exact Nat.zero_le _
  | cons y ys ih =>
    have h1 := h y List.mem_cons_self
    have h2 := ih fun z hz => h z (List.mem_cons_of_mem _ hz)
    rw [List.map_cons, List.sum_cons, List.length_cons, Nat.add_mul, Nat.one_mul]
    omega
theorem join_le {y : Str} {parts : List Str} {k n : Nat} (h : ∀ p ∈ parts, p.length ≤ k) (hn : parts.length ≤ n) : (Str.join y parts).length ≤ n * (k + y.length) := by
  have h1 := join_len y parts
  have h2 := sum_le_of h
  have h3 : parts.length * (k + y.length) ≤ n * (k + y.length) := Nat.mul_le_mul_right _ hn
  rw [Nat.mul_add] at h3
  omega
section
variable {X : Cx} {tb : Tbs} {b : Bx tb} {S S1 S2 S3 : List Sl} {e f : Expr} {pos p p1 p2 : Pos} {n : Int} {x y : Str} {ys : List Str}
theorem r2_addS {K : PySem.W.Frag} (h : x.length + y.length ≤ sizeLine) : R2D K b S (fun x y H Q => ∃ i j, x = .str i ∧ y = .str j ∧ i.length + j.length ≤ sizeLine ∧ Q (.str (i ++ j)) H) (.str x) (.str y) (.val (.str (x ++ y))) := fun G H σ v w Q st r1 r2 q => by
  cases r1; cases r2
  exact ⟨x, y, rfl, rfl, h, q _ G H st (Ex.refl G) (.str _)⟩
/-- text + text -/
theorem E_addS (ha : E X b S1 e (.val (.str x)) S2) (hb : E X b S2 f (.val (.str y)) S3) (h : x.length + y.length ≤ 100000) : E X b S1 (.BinOp e .Add f pos) (.val (.str (x ++ y))) S3 := E_op op_add_str (r2_addS (Nat.le_trans h (Nat.le_of_ble_eq_true rfl))) ha hb
/-- str(number), str(text) -/
theorem E_strI (hm : X.mg "str" = none) (ha : E X b S e (.val (.int n)) S1) (hz : n.natAbs < 2 ^ 64) (hg : Gl X "str" := by rfl) (he : starEach [e] X.env = (false, eval e X.env) :: starEach [] X.env := by rfl) (hpl : (backTo pos (starEach [] X.env)).any (·.1) = false := by rfl) : E X b S (.Call (.Name "str" p) [e] [] pos) (.val (.str (numS n))) S1 :=
  E_cb (pe_callTy call_str_int hg hm bb_str (A_cons ha A_nil he) (by decide) (by decide) he hpl) fun G H σ vs Q st r q => by
    cases r with
    | cons r1 rn =>
      cases rn
      cases r1
      refine ⟨_, rfl, ?_, q _ G H st (Ex.refl G) (.str _)⟩
      by_cases h0 : n.natAbs = 0
      · rw [h0]; decide
      · have := (Nat.log2_lt h0).mpr hz
        omega
theorem E_strS (hm : X.mg "str" = none) (ha : E X b S e (.val (.str x)) S1) (hg : Gl X "str" := by rfl) (he : starEach [e] X.env = (false, eval e X.env) :: starEach [] X.env := by rfl) (hpl : (backTo pos (starEach [] X.env)).any (·.1) = false := by rfl) : E X b S (.Call (.Name "str" p) [e] [] pos) (.val (.str x)) S1 :=
  E_cb (pe_callTy SkE.call_str_str hg hm bb_str (A_cons ha A_nil he) (by decide) (by decide) he hpl) fun G H σ vs Q st r q => by
    cases r with
    | cons r1 rn =>
      cases rn
      cases r1
      exact ⟨_, rfl, q _ G H st (Ex.refl G) (.str _)⟩
/-- the text of a number or of a text -/
def strD : PyData → Str
  | .int n => numS n
  | .str x => x
  | _ => ("" : Str)
/-- a number below 2^64, or a text -/
def Telling (d : PyData) : Prop := (∃ n : Int, d = .int n ∧ n.natAbs < 2 ^ 64) ∨ ∃ x : Str, d = .str x
theorem E_strD {d : PyData} (hm : X.mg "str" = none) (ha : E X b S e (.val d) S1) (hd : Telling d) (hg : Gl X "str" := by rfl) (he : starEach [e] X.env = (false, eval e X.env) :: starEach [] X.env := by rfl) (hpl : (backTo pos (starEach [] X.env)).any (·.1) = false := by rfl) : E X b S (.Call (.Name "str" p) [e] [] pos) (.val (.str (strD d))) S1 := by
  rcases hd with ⟨n, rfl, hz⟩ | ⟨x, rfl⟩
  · exact E_strI hm ha hz hg he hpl
  · exact E_strS hm ha hg he hpl
/-- text.join(list of texts) -/
theorem E_join {pa : Pos} (ho : E X b S e (.val (.str x)) S1) (he : E X b S1 f (.val (.list (ys.map PyData.str))) S2) (hz : (ys.map (·.length)).sum + ys.length * x.length ≤ 100000) (hs : starEach [f] X.env = [(false, eval f X.env)] := by rfl) (hbase : attributeBase e "join" X.env (eval e X.env) = eval e X.env := by rfl) (hline : (pa.endLine == pos.line) = true := by rfl) :
    E X b S (.Call (.Attribute e "join" pa) [f] [] pos) (.val (.str (Str.join x ys))) S2 :=
  PE.w (pe_join ho he hs hbase hline) fun σ H Q ⟨G, st, q⟩ => ⟨G, st, fun v G2 H2 st2 x2 r => by
    cases r
    refine ⟨⟨_, rfl⟩, G2, st2, fun w G3 H3 st3 x3 r3 => ?_⟩
    cases r3 with
    | @lst a ws _ h3 t =>
      have e1 := t.strs
      subst e1
      refine ⟨x, a, ys, rfl, rfl, .inl (.inl (st3.sub.rd h3)), by omega, ?_⟩
      rw [TL.join_eq]
      exact q _ G3 H3 st3 (x2.trans x3) (.str _)⟩
/-- equality of texts -/
theorem r2_eqS {K : PySem.W.Frag} : R2D K b S rEq (.str x) (.str y) (.val (.bool (decide (x = y)))) := fun G H σ v w Q st r1 r2 q => by
  cases r1; cases r2
  have e : decide (V.str x = V.str y) = decide (x = y) := by
    by_cases h : x = y
    · subst h; simp
    · rw [decide_eq_false h, decide_eq_false (fun z => h (by injection z))]
  exact ⟨rfl, by rw [e]; exact q _ G H st (Ex.refl G) (.bl _)⟩
theorem r2_neS {K : PySem.W.Frag} : R2D K b S rNe (.str x) (.str y) (.val (.bool (!decide (x = y)))) := fun G H σ v w Q st r1 r2 q => by
  cases r1; cases r2
  have e : decide (V.str x = V.str y) = decide (x = y) := by
    by_cases h : x = y
    · subst h; simp
    · rw [decide_eq_false h, decide_eq_false (fun z => h (by injection z))]
  exact ⟨rfl, by rw [e]; exact q _ G H st (Ex.refl G) (.bl _)⟩
theorem T_eqS (ha : E X b S1 e (.val (.str x)) S2) (hb : E X b S2 f (.val (.str y)) S3) : T X b S1 (.Compare e [.Eq] [f] pos) (decide (x = y)) S3 := T_cmp op_eq r2_eqS (nomark _) ha hb
theorem T_neS (ha : E X b S1 e (.val (.str x)) S2) (hb : E X b S2 f (.val (.str y)) S3) : T X b S1 (.Compare e [.NotEq] [f] pos) (!decide (x = y)) S3 := T_cmp op_ne r2_neS (nomark _) ha hb
theorem E_eqS (ha : E X b S1 e (.val (.str x)) S2) (hb : E X b S2 f (.val (.str y)) S3) : E X b S1 (.Compare e [.Eq] [f] pos) (.val (.bool (decide (x = y)))) S3 := E_cmp op_eq r2_eqS (nomark _) ha hb
theorem E_neS (ha : E X b S1 e (.val (.str x)) S2) (hb : E X b S2 f (.val (.str y)) S3) : E X b S1 (.Compare e [.NotEq] [f] pos) (.val (.bool (!decide (x = y)))) S3 := E_cmp op_ne r2_neS (nomark _) ha hb
/-- a text in a tuple or list of texts -/
theorem inV_strs (x : Str) : ∀ ys : List Str, inV (.str x) (ys.map V.str) = decide (x ∈ ys)
  | [] => by simp [inV]
  | y :: ys => by
    have h := inV_strs x ys
    unfold inV at h ⊢
    rw [List.map_cons, List.any_cons, h]
    show (y == x || decide (x ∈ ys)) = decide (x ∈ y :: ys)
    by_cases c : x = y
    · subst c; simp
    · have c' : (y == x) = false := by simpa using fun z : y = x => c z.symm
      rw [c', Bool.false_or]
      by_cases m : x ∈ ys
      · simp [m]
      · simp [m, c]
theorem flat_strs (ys : List Str) : (ys.map V.str).all L2.flatV = true := by
  rw [List.all_eq_true]
  intro v h
  obtain ⟨y, _, rfl⟩ := List.mem_map.mp h
  rfl
theorem r2_inTS {K : PySem.W.Frag} {neg : Bool} : R2D K b S (rIn K neg) (.str x) (.tuple (ys.map PyData.str)) (.val (.bool (if neg then !decide (x ∈ ys) else decide (x ∈ ys)))) := fun G H σ v w Q st r1 r2 q => by
  cases r1
  cases r2 with
  | tup h t =>
    have e1 := t.strs
    subst e1
    refine ⟨_, _, rfl, .inr (st.sub.sqT h), rfl, flat_strs ys, ?_⟩
    rw [inV_strs]
    exact q _ G H st (Ex.refl G) (.bl _)
theorem r2_inLS {K : PySem.W.Frag} {neg : Bool} : R2D K b S (rIn K neg) (.str x) (.list (ys.map PyData.str)) (.val (.bool (if neg then !decide (x ∈ ys) else decide (x ∈ ys)))) := fun G H σ v w Q st r1 r2 q => by
  cases r1
  cases r2 with
  | lst h t =>
    have e1 := t.strs
    subst e1
    refine ⟨_, _, rfl, .inl (.inl (st.sub.rd h)), rfl, flat_strs ys, ?_⟩
    rw [inV_strs]
    exact q _ G H st (Ex.refl G) (.bl _)
theorem T_inTS (ha : E X b S1 e (.val (.str x)) S2) (hb : E X b S2 f (.val (.tuple (ys.map PyData.str))) S3) (hm : behindInMarks .In f = false) : T X b S1 (.Compare e [.In] [f] pos) (decide (x ∈ ys)) S3 := T_cmp op_in_seq (r2_inTS (neg := false)) hm ha hb
theorem T_niTS (ha : E X b S1 e (.val (.str x)) S2) (hb : E X b S2 f (.val (.tuple (ys.map PyData.str))) S3) (hm : behindInMarks .NotIn f = false) : T X b S1 (.Compare e [.NotIn] [f] pos) (!decide (x ∈ ys)) S3 := T_cmp op_notIn_seq (r2_inTS (neg := true)) hm ha hb
theorem T_inLS (ha : E X b S1 e (.val (.str x)) S2) (hb : E X b S2 f (.val (.list (ys.map PyData.str))) S3) (hm : behindInMarks .In f = false) : T X b S1 (.Compare e [.In] [f] pos) (decide (x ∈ ys)) S3 := T_cmp op_in_seq (r2_inLS (neg := false)) hm ha hb
theorem T_niLS (ha : E X b S1 e (.val (.str x)) S2) (hb : E X b S2 f (.val (.list (ys.map PyData.str))) S3) (hm : behindInMarks .NotIn f = false) : T X b S1 (.Compare e [.NotIn] [f] pos) (!decide (x ∈ ys)) S3 := T_cmp op_notIn_seq (r2_inLS (neg := true)) hm ha hb
/-- a name of the module that holds data -/
def GlobD (mg : Str → Option Value) (K : PySem.W.Frag) (n : Str) (d : PyData) : Prop := ∃ a : Addr, mg n = some (.ref a) ∧ ∀ G, Rp K G (.ref a) d
theorem E_globD {n : Str} {d : PyData} (h : GlobD X.mg X.K n d) (hg : Gl X n := by rfl) (hd : (n == ("__debug__" : Str)) = false := by decide) : E X b S (.Name n pos) (.val d) S := by
  obtain ⟨a, hm, hk⟩ := h
  exact E_c (pe_glob (v := .ref a) hg hm rfl hd) hk
theorem RpA.ofStrs {K : PySem.W.Frag} {G : Hp} : ∀ (ys : List Str), RpA K G (ys.map V.str) (ys.map PyData.str)
  | [] => .nil
  | y :: ys => .cons (.str y) (RpA.ofStrs ys)
/-- a tuple of texts among the module's own objects -/
theorem globD_strs {mg : Str → Option Value} {K : PySem.W.Frag} {n : Str} {a : Addr} {o : Obj} {its : Array Value} {m : Nat} (ys : List Str) (hm : mg n = some (.ref a)) (hl : K.lookup a = some o) (hc : o.cls = .type "tuple") (hd : o.data = .seq its m) (hz : its.size ≤ sizeLine) (hv : Vals (ys.map V.str) its.toList) : GlobD mg K n (.tuple (ys.map PyData.str)) :=
  ⟨a, hm, fun _ => .tup (.inr ⟨o, its, m, hl, hc, hd, hz, hv⟩) (RpA.ofStrs ys)⟩
end
end D

set_option Elab.async false
set_option linter.all false
set_option maxRecDepth 100000
set_option maxHeartbeats 1000000
set_option autoImplicit false
/-! Pt1: orders, what is told of them, tales. -/
namespace D
open PySem PySem.Spec PyProof.Rows L2
/-- an order: 0 weigh, 1 lose, 2 find; its number -/
abbrev OrdT := Nat × Int
def wordS : Nat → Str
  | 0 => "weigh"
  | 1 => "lose"
  | _ => "find"
def ordD (o : OrdT) : PyData := .tuple [.str (wordS o.1), .int o.2]
structure OrdOk (n : Nat) (o : OrdT) : Prop where
  k : o.1 ≤ 2
  lo : 0 ≤ o.2
  w : o.1 = 0 → o.2 ≤ 10000
  p : o.1 ≠ 0 → o.2 < (n : Int)
/-- the text of weights -/
def wtxt (t : List Int) : Str := if t = [] then ("nothing" : Str) else Str.join (" + " : Str) (t.map numS)
def weighS (ws : List Int) (load : Int) : Str := if (weighL ws.reverse load).2 = 0 then wtxt (weighL ws.reverse load).1 else ("not weighed" : Str)
/-- the lost places behind an order -/
def nextV (L : List Int) (o : OrdT) : List Int := if o.1 = 0 then L else if decide (o.1 = 1) = decide (o.2 ∈ L) then L else if o.1 = 1 then sortI (L ++ [o.2]) else L.filter fun x => !decide (x = o.2)
/-- .. as the law keeps them -/
def nextM (M : List Int) (o : OrdT) : List Int := if o.1 = 0 then M else if decide (o.1 = 1) = decide (o.2 ∈ M) then M else if o.1 = 1 then M ++ [o.2] else M.filter fun x => !decide (x = o.2)
def toldV (ns L : List Int) (o : OrdT) : Str := if o.1 = 0 then weighS (leftV ns L) o.2 else if decide (o.1 = 1) = decide (o.2 ∈ L) then ("not done" : Str) else ("reach " : Str) ++ numS (reachV (leftV ns (nextV L o)))
def lineT (ns L : List Int) (o : OrdT) : Str := Str.join (" " : Str) [wordS o.1, numS o.2] ++ (": " : Str) ++ toldV ns L o ++ ("\n" : Str)
def lostAt (os : List OrdT) (i : Nat) : List Int := (os.take i).foldl nextV []
def lostM (os : List OrdT) (i : Nat) : List Int := (os.take i).foldl nextM []
def textsV (ns : List Int) (os : List OrdT) (i : Nat) : List Str := (List.range i).map fun j => lineT ns (lostAt os j) (os.getD j (0, 0))
def taleV (ns : List Int) (os : List OrdT) : Str := Str.join Str.empty (textsV ns os os.length)
theorem lost_succ {os : List OrdT} {i : Nat} {o : OrdT} (h : os[i]? = some o) : lostAt os (i + 1) = nextV (lostAt os i) o := by
  unfold lostAt
  rw [take_succ' h, List.foldl_append]
  rfl
theorem lostM_succ {os : List OrdT} {i : Nat} {o : OrdT} (h : os[i]? = some o) : lostM os (i + 1) = nextM (lostM os i) o := by
  unfold lostM
  rw [take_succ' h, List.foldl_append]
  rfl
theorem leftV_congr {ns L M : List Int} (h : ∀ x, x ∈ L ↔ x ∈ M) : leftV ns L = leftV ns M := by
  unfold leftV keepN
  congr 1
  refine List.filter_congr fun x _ => ?_
  simp only [h]
theorem next_perm {L M : List Int} (h : L.Perm M) (o : OrdT) : (nextV L o).Perm (nextM M o) := by
  unfold nextV nextM
  have hm : (o.2 ∈ L) = (o.2 ∈ M) := propext h.mem_iff
  simp only [hm]
  split
  · exact h
  · split
    · exact h
    · split
      · exact (sortI_perm _).trans (h.append (List.Perm.refl _))
      · exact h.filter _
theorem lost_perm (os : List OrdT) : ∀ i, (lostAt os i).Perm (lostM os i) := by
  intro i
  unfold lostAt lostM
  generalize os.take i = l
  suffices ∀ L M : List Int, L.Perm M → (l.foldl nextV L).Perm (l.foldl nextM M) from this [] [] (List.Perm.refl _)
  induction l with
  | nil => exact fun L M h => h
  | cons o l ih => exact fun L M h => ih _ _ (next_perm h o)
theorem next_ok {n : Nat} {L : List Int} {o : OrdT} (h : LossOk n L) (ho : OrdOk n o) : LossOk n (nextV L o) := by
  unfold nextV
  split
  · exact h
  · rename_i c
    split
    · exact h
    · rename_i c2
      split
      · rename_i c3
        have hni : o.2 ∉ L := fun z => c2 (by rw [decide_eq_true c3, decide_eq_true z])
        refine ⟨fun y hy => ?_, ?_⟩
        · rcases List.mem_append.mp ((sortI_perm _).mem_iff.mp hy) with z | z
          · exact h.rng y z
          · rw [List.mem_singleton.mp z]; exact ⟨ho.lo, ho.p c⟩
        · have hnd : (sortI (L ++ [o.2])).Nodup := (sortI_perm _).nodup_iff.mpr (by
            rw [List.nodup_append]
            refine ⟨h.up.imp fun z => by omega, by simp, fun a ha b hb => ?_⟩
            rw [List.mem_singleton.mp hb]
            exact fun z => hni (z ▸ ha))
          have hup := sortI_up (L ++ [o.2])
          have := List.Pairwise.and hup hnd
          exact this.imp fun z => by obtain ⟨z1, z2⟩ := z; omega
      · exact ⟨fun y hy => h.rng y ((List.mem_filter.mp hy).1), h.up.filter _⟩
theorem lost_ok {n : Nat} {os : List OrdT} (h : ∀ o ∈ os, OrdOk n o) (i : Nat) : LossOk n (lostAt os i) := by
  unfold lostAt
  have h' : ∀ o ∈ os.take i, OrdOk n o := fun o ho => h o (List.mem_of_mem_take ho)
  revert h'
  generalize os.take i = l
  suffices ∀ L : List Int, LossOk n L → (∀ o ∈ l, OrdOk n o) → LossOk n (l.foldl nextV L) from this [] ⟨fun y hy => by simp at hy, List.Pairwise.nil⟩
  induction l with
  | nil => exact fun L h _ => h
  | cons o l ih => exact fun L h ho => ih _ (next_ok h (ho o List.mem_cons_self)) fun o' h' => ho o' (List.mem_cons_of_mem _ h')
theorem dT_inj : ∀ {xs ys : List Int}, dT xs = dT ys → xs = ys := fun {xs ys} h => by
  have h' : xs.map PyData.int = ys.map PyData.int := by injection h
  clear h
  induction xs generalizing ys with
  | nil => cases ys with
    | nil => rfl
    | cons y ys => cases h'
  | cons x xs ih => cases ys with
    | nil => cases h'
    | cons y ys =>
      rw [List.map_cons, List.map_cons] at h'
      injection h' with h1 h2
      injection h1 with h1
      rw [h1, ih h2]
/-! ### how long -/
theorem wtxt_len {t : List Int} (h : ∀ x ∈ t, 0 ≤ x ∧ x ≤ 1000) (hl : t.length ≤ 10) : (wtxt t).length ≤ 70 := by
  unfold wtxt
  split
  · decide
  · have h1 := join_le (y := (" + " : Str)) (parts := t.map numS) (k := 4) (n := 10) (fun p hp => by
      obtain ⟨x, hx, rfl⟩ := List.mem_map.mp hp
      have := h x hx
      exact numS_len (by decide) this.1 (by omega)) (by rw [List.length_map]; exact hl)
    have e : (" + " : Str).length = 3 := by decide
    rw [e] at h1
    omega
theorem word_len (k : Nat) : (wordS k).length ≤ 5 := by
  match k with
  | 0 => decide
  | 1 => decide
  | k + 2 => show ("find" : Str).length ≤ 5; decide
end D

set_option Elab.async false
set_option linter.all false
set_option maxRecDepth 100000
set_option maxHeartbeats 1000000
set_option autoImplicit false
/-! Do2: a constructor that raises; (object, new list) unpacked into two names; list * int. -/
namespace D
open PySem PySem.Spec PyProof.Rows L2
section
variable {X : Cx} {tb : Tbs} {b : Bx tb} {S S1 : List Sl} {e : Expr} {es : List Expr} {ds xs : List PyData} {pos p : Pos} {k : Nat} {x y nm : Str} {ps : List Str} {C : Addr} {fs fs' : List (Str × PyData)} {cls : Value} {fo : Fo} {rest : List Stmt} {P : Po}
def tMakeS (C : Addr) (sp : Sp) (E : L2.St → XK) (t : TA) : TE := fun σ H Q => t σ H fun vs H1 => ∀ x dx, H1 x = none → H1 dx = none → dx ≠ x →
  sp (.ref x :: vs) (upd (upd H1 dx (.own x)) x (.ins C dx [])) (fun v H2 => v = .non ∧ Q (.ref x) H2) (E σ)
theorem pe_makeS {CX : CXT} {f : Addr} {fd : FuncData} {sp : Sp} {t : TA} {E : L2.St → XK} (M : Mk X.K C f) (F : FnOk X.prog X.w X.K X.mg X.base CX k f fd ps sp) (hr : Room (k + 1) X.A) (hg : Gl X x) (hm : X.mg x = some (.ref C)) (hb : Binds X.K fd ps []) (hx : ∀ σ, PassesAt CX X σ (E σ))
    (ha : PA X (e :: es) t) (hdb : (x == ("__debug__" : Str)) = false) (he : starEach (e :: es) X.env = (false, eval e X.env) :: starEach es X.env) (hpl : (backTo pos (starEach es X.env)).any (·.1) = false) :
    PE X (.Call (.Name x p) (e :: es) [] pos) (tMakeS C sp E t) := by
  refine ⟨fun pins s σ H Q I h => ?_⟩
  refine wpAny_Call_Name_kw (ld_glob I hg hm ?_ hdb)
  refine PySem.W.callWith_K (h₀ := X.base) I.ok.mod.kin M.kp (thn (ha.run pos pins s σ H _ I h) fun us s1 hh => ?_) he hpl
  obtain ⟨vs, H1, I1, r, q⟩ := hh
  refine ⟨I1.kIn, ?_⟩
  have hq := q (s1.heap.objs.size + 1) s1.heap.objs.size (I1.hok.fresh (Nat.le_succ _)) (I1.hok.fresh (Nat.le_refl _)) (Nat.ne_of_lt (Nat.lt_succ_self _))
  have I2 := Inv.made (C := C) I1
  have r2 : Vals (V.ref (s1.heap.objs.size + 1) :: vs) (Value.ref (s1.heap.objs.size + 1) :: us) := .cons rfl r
  have hl : (Value.ref (s1.heap.objs.size + 1) :: us).length = ps.length := by
    have e := r2.length
    rw [F.len _ _ _ _ hq] at e
    exact e.symm
  have bb := hb _ (Value.ref (s1.heap.objs.size + 1) :: us) I2.kIn (by rw [List.append_nil]; exact hl)
  rw [List.append_nil] at bb
  refine wpAny_call (make_map (f := f) I1.kIn M.makes M.init (beq_iff_eq.mp M.fn) (codeAny_mono (F.run _ X.stack _ _ ⟨Value.ref (s1.heap.objs.size + 1) :: us, []⟩ (Value.ref (s1.heap.objs.size + 1) :: us) _ _ (E σ) (hr.make C us [])
    (I2.env0.make C us []) bb r2 hq) fun r s' hq' => ?_))
  cases r with
  | error e => exact hx σ pins _ _ e s' I2 hq'
  | ok fl =>
    cases fl with
    | ret u =>
      obtain ⟨v, H', I3, rv, ev, q3⟩ := I2.after hq'
      subst ev
      exact ⟨rv, ⟨V.ref (s1.heap.objs.size + 1), H', I3, rfl, q3⟩⟩
    | next => exact False.elim hq'
    | brk => exact False.elim hq'
    | cont => exact False.elim hq'
/-- C(e, ..), that raises -/
theorem EX_make {pre : List (Str × PyData) → List PyData → Str → Fo → Prop} (M : Mi X.prog X.w X.K X.mg X.base (L2.CX X.prog X.w) k C ps (spMX X.K X.mg tb C pre)) (tk : Takes X b.W) (hm : X.mg x = some (.ref C)) (hr : Room (k + 1) X.A) (hg : Gl X x) (ha : A X b S (e :: es) ds S1) (hp : pre [] ds nm fo) (hc : X.mg nm = some cls)
    (hdb : (x == ("__debug__" : Str)) = false := by decide) (he : starEach (e :: es) X.env = (false, eval e X.env) :: starEach es X.env := by rfl) (hpl : (backTo pos (starEach es X.env)).any (·.1) = false := by rfl) :
    EX X b S (.Call (.Name x p) (e :: es) [] pos) cls fo S1 := by
  obtain ⟨fa, fd, F, hk, hb⟩ := M
  refine PE.w (pe_makeS (E := WE b.W) hk F hr hg hm hb (fun σ => passAt tk σ) ha hdb he hpl) fun σ H Q ⟨G, st, q⟩ => ⟨G, st, fun vs G2 H2 st2 x2 r => ?_⟩
  intro a dx na ndx ne
  show spMX X.K X.mg tb C pre (.ref a :: vs) _ _ (WE b.W σ)
  have st3 := st2.poke (o := .own a) (st2.sub.dom ndx) (st2.base.dom ndx) fun i q w => st2.ownNe ndx w
  have na3 : upd H2 dx (.own a) a = none := by rw [upd_ne (fun z => ne z.symm)]; exact na
  have st4 := st3.poke (o := .ins C dx []) (st3.sub.dom na3) (st3.base.dom na3) fun i q w => st3.ownNe na3 w
  refine ⟨G2, a, dx, [], vs, [], ds, nm, cls, fo, hp, hc, st4.tabs, rfl, st4.sub, upd_same, .nil, st3.sub.dom na3, r, fun d G' H' dx2 rs' y0 y1 y2 y3 y4 y5 y6 y7 y8 xo => ?_⟩
  have y4' : Ex (upd H2 dx (.own a)) H' := fun c o h => y4 c o (ne_of_none h na3) (by rw [upd_ne (ne_of_none h na3)]; exact h)
  have y5' : ∀ c, H' c = none → upd H2 dx (.own a) c = none := fun c h => by
    have := y5 c h
    by_cases hc : c = a
    · subst hc; exact na3
    · rw [upd_ne hc] at this; exact this
  have y2' : New G2 G' (upd H2 dx (.own a)) := fun c h => by
    rcases y2 c h with z | z
    · exact .inl z
    · by_cases hc : c = a
      · subst hc; exact .inr na3
      · rw [upd_ne hc] at z; exact .inr z
  have s5 := st3.called y0 y1 y2' y3 y4' y5'
  exact q d G' H' s5 (x2.trans y1) xo
/-- x, y = (a new object, []) -/
theorem B_objL (i j : Nat) {px py pt pt2 pl : Pos} {kt k2 : Nat} (he : E X b S e (.obj C fs) S1) (hc : X.calm = true) (hN : X.N.Nodup) (hi : X.N[i]? = some x) (hj : X.N[j]? = some y) (hij : i ≠ j) (hx : Loc X.env.scope x) (hy : Loc X.env.scope y)
    (k : SS X b ((S1.set i (.ins true C fs)).set j (.own true [])) rest P) (hw : swappedStores [.Tuple [.Name x px, .Name y py] kt pt] (.Tuple [e, .List [] pl] k2 pt2) X.env = pure none := by rfl) (hs : swapsWithSole [.Tuple [.Name x px, .Name y py] kt pt] (.Tuple [e, .List [] pl] k2 pt2) pos.line X.env = pure false := by rfl)
    (ha : starEach [e, .List [] pl] X.env = (false, eval e X.env) :: starEach [.List [] pl] X.env := by rfl) (hf : X.fn x = true ∨ X.env.scope.names.lookup x = some .local := by first | exact .inl rfl | exact .inr rfl) (hf2 : X.fn y = true ∨ X.env.scope.names.lookup y = some .local := by first | exact .inl rfl | exact .inr rfl) :
    SS X b S (.Assign [.Tuple [.Name x px, .Name y py] kt pt] (.Tuple [e, .List [] pl] k2 pt2) pos :: rest) P :=
  ss_cons (Mid := fun S' => S' = (S1.set i (.ins true C fs)).set j (.own true [])) (PS.w (ps_asg (pe_tup (pa_cons he (pa_cons (pe_lst pa_nil) pa_nil) ha)) (pg_tup hc (pgs_cons (pg_name hN hi hx hf) (pgs_cons (pg_name hN hj hy hf2) pgs_nil))) hs hw) fun D σ H ⟨G, st, q1, _⟩ => ⟨G, st, fun v G2 H2 st2 x2 r => by
    obtain ⟨q, dx, vs, rfl, hq, rv, ap, ho⟩ := r
    refine ⟨Nat.zero_le _, fun p hp => ⟨Nat.le_of_ble_eq_true rfl, fun t ht => ?_⟩⟩
    have sp := st2.poke (o := .lst []) (st2.sub.dom hp) (st2.base.dom hp) fun i q w => st2.ownNe hp w
    have stt := sp.poke (o := .tup [.ref q, .ref p]) (sp.sub.dom ht) (sp.base.dom ht) fun i q w => sp.ownNe ht w
    have hpt : p ≠ t := fun z => by rw [z, upd_same] at ht; cases ht
    have hqp : q ≠ p := fun z => by rw [z, hp] at hq; cases hq
    have hqt : q ≠ t := fun z => by rw [z] at hqp hq; rw [upd_ne hqp, hq] at ht; cases ht
    have hq' : upd (upd H2 p (.lst [])) t (.tup [.ref q, .ref p]) q = some (.ins C dx vs) := by rw [upd_ne hqt, upd_ne hqp]; exact hq
    have hp' : upd (upd H2 p (.lst [])) t (.tup [.ref q, .ref p]) p = some (.lst []) := by rw [upd_ne hpt, upd_same]
    refine ⟨t, [.ref q, .ref p], rfl, .inl (.inl upd_same), rfl, .ref q, [.ref p], rfl, .ref p, [], rfl, rfl, ?_⟩
    have s1 := stt.put (i := i) (s := .ins true C fs) ⟨q, rfl, ap, dx, vs, hq', rv⟩ fun _ j q' e _ w => ho j q' w (by cases e; rfl)
    have ap2 : Apart b G2 p true := ⟨st2.base.dom hp, st2.sub.dom hp, fun _ => st2.nw _ hp, fun z => by cases z⟩
    have s2 := s1.put (i := j) (s := .own true []) (v := some (.ref p)) ⟨p, rfl, ap2, [], hp', .nil⟩ fun _ m q' e hm w => by
      cases e
      obtain ⟨⟨t', e1, ht'⟩, e3⟩ := w
      by_cases hmi : m = i
      · subst hmi
        have hl : m < σ.length := by
          have := (List.getElem?_eq_some_iff.mp e3).1
          rw [List.length_set] at this
          exact this
        rw [set_at hl] at e3
        cases e3
        exact hqp rfl
      · rw [set_off hmi] at e1 e3
        exact st2.ownNe hp ⟨⟨t', e1, ht'⟩, e3⟩ rfl
    exact q1 G2 _ _ _ s2 x2 rfl⟩) fun S' h => by rw [h]; exact k
/-- a new list * int -/
theorem E_repK {p2 : Pos} {j : Nat} {n : Int} (he : E X b S e (.new xs) S1) (h0 : 0 ≤ n) (h1 : n ≤ 1000) (hz : xs.length ≤ 1000) : E X b S (.BinOp e .Mult (.Constant (.int n) j p2) pos) (.new (List.replicate n.toNat xs).flatten) S1 :=
  PE.w (pe_op op_rep he (pe_int (i := n))) fun σ H Q ⟨G, st, q⟩ => ⟨G, st, fun v G2 H2 st2 x2 r => by
    obtain ⟨a, vs, rfl, hq, rv, ap, ho⟩ := r
    refine ⟨a, n, vs, rfl, rfl, hq, by omega, by omega, ?_, fun t ht => ?_⟩
    · rw [rv.length]
      have : xs.length * n.toNat ≤ 1000 * 1000 := Nat.mul_le_mul hz (by omega)
      have h2 : Nat.ble (1000 * 1000) sizeLine = true := by rfl
      exact Nat.le_trans this (Nat.le_of_ble_eq_true h2)
    · have hr : ∀ m : Nat, RpA X.K G2 (List.replicate m vs).flatten (List.replicate m xs).flatten := fun m => by
        induction m with
        | zero => exact .nil
        | succ m ih => rw [List.replicate_succ, List.replicate_succ, List.flatten_cons, List.flatten_cons]; exact rv.append ih
      obtain ⟨a1, a2⟩ := st2.newL ht (hr n.toNat)
      exact q _ _ _ a1 x2 a2⟩
end
end D

set_option Elab.async false
set_option linter.all false
set_option maxRecDepth 100000
set_option maxHeartbeats 1000000
set_option autoImplicit false
/-! Ds2: a def that is handed an object that it changes; equality of truth values. -/
namespace D
open PySem PySem.Spec PyProof.Rows L2
theorem fd_mkM {P : Program} {w : World} {K : PySem.W.Frag} {tb : Tbs} {mg : Str → Option Value} {base : Heap} {x qual : Str} {st : Stmt} {f C : Addr} {fd : FuncData} {N ps : List Str} {k : Nat} {pre : List (Str × PyData) → List PyData → PyData → List (Str × PyData) → Prop} (F : Fun K x qual st f fd) (S : FnScope N ps (defScope st)) (hm : mg x = some (.ref f))
    (hb : ∀ (kV doc pm : Value) (an : Option Addr) (cdv ct : Value) (us : List Value), us.length = ps.length → bindArgs (PySem.W.fnOf x qual (defArgs st) (defBody st) (defScope st) .none kV doc pm an cdv ct) ⟨us, []⟩ = pure (ps.zip us))
    (len : ∀ fs ds d fs', pre fs ds d fs' → ds.length + 1 = ps.length)
    (body : ∀ (cdv : Value) (A : Around) (outer : List Env) (s : Shared) (H : Hp) (E : XK) (b : Bx tb) (fs : List (Str × PyData)) (ds : List PyData) (d : PyData) (fs' : List (Str × PyData)), Room k (A.deeper (envOfC qual (defScope st) s.heap.objs.size f cdv)) → pre fs ds d fs' →
      SS (cxOf CX0 P w K mg base N qual (defScope st) f cdv A outer s H E).nox b (slots0 N (.ins false C fs :: ds.map Sl.val)) (defBody st) (poM C d fs')) : Fd P w K mg base (k + 1) x ps (spM K tb C pre) :=
  ⟨f, fd, fn_mkM F S len body, hm, F.kp, F.binds hb⟩
section
variable {X : Cx} {tb : Tbs} {b : Bx tb} {S S1 S2 S3 : List Sl} {e f : Expr} {es : List Expr} {d : PyData} {ds : List PyData} {pos p : Pos} {k : Nat} {x : Str} {ps : List Str} {C : Addr} {fs fs' : List (Str × PyData)} {l : Bool}
theorem E_st {r : Rs} (h : E X b S e r S1) (q : S1 = S2) : E X b S e r S2 := q ▸ h
/-- x(o, e, ..), o an object that the def changes -/
theorem E_callM (i : Nat) {y : Str} {py : Pos} {pre : List (Str × PyData) → List PyData → PyData → List (Str × PyData) → Prop} (F : Fd X.prog X.w X.K X.mg X.base k x ps (spM X.K tb C pre)) (hr : Room k X.A) (hg : Gl X x) (hy : PE X (.Name y py) (tVar i)) (ha : A X b S es ds S1) (hs0 : ∃ z, S[i]? = some (.ins l C z)) (hs1 : S1[i]? = some (.ins l C fs)) (hp : pre fs ds d fs')
    (hdb : (x == ("__debug__" : Str)) = false := by decide) (he : starEach (.Name y py :: es) X.env = (false, eval (.Name y py) X.env) :: starEach es X.env := by rfl) (hpl : (backTo pos (starEach es X.env)).any (·.1) = false := by rfl) :
    E X b S (.Call (.Name x p) (.Name y py :: es) [] pos) (.val d) (S1.set i (.ins l C fs')) := by
  obtain ⟨fa, fd, F, hm, hk, hb⟩ := F
  obtain ⟨z, hs0⟩ := hs0
  refine PE.w (pe_call F hr hg hm hk hb .nil pass0 (pa_cons hy ha he) hdb he hpl) fun σ H Q ⟨G, st, q⟩ => ?_
  obtain ⟨a, dx, vs, h1, ap, h2, r⟩ := st.slotI hs0
  refine ⟨_, h1, G, st, fun ws G2 H2 st2 x2 r2 => ?_⟩
  obtain ⟨a', dx', vs', h1', ap', h2', r'⟩ := st2.slotI hs1
  have ea : a = a' := by rw [h1] at h1'; cases h1'; rfl
  subst ea
  show spM X.K tb C pre (.ref a :: ws ++ []) H2 Q E0
  rw [List.append_nil]
  refine ⟨G2, a, dx', vs', ws, fs, ds, d, fs', hp, st2.tabs, rfl, st2.sub, h2', r', ap'.hg, r2, fun v G' H' dx2 rs' y0 y1 y2 y3 y4 y5 y6 y7 y8 rv => ?_⟩
  exact q v G' H' (st2.calledAt (s' := .ins l C fs') h1' hs1 rfl rfl rfl y0 y1 y2 y3 y4 y5 y6 ⟨dx2, rs', y7, y8⟩) (x2.trans y1) rv
theorem r2_eqB {K : PySem.W.Frag} {c c' : Bool} : R2D K b S rEq (.bool c) (.bool c') (.val (.bool (decide (c = c')))) := fun G H σ v w Q st r1 r2 q => by
  cases r1; cases r2
  have e : decide (V.bl c = V.bl c') = decide (c = c') := by
    by_cases h : c = c'
    · subst h; simp
    · rw [decide_eq_false h, decide_eq_false (fun z => h (by injection z))]
  exact ⟨rfl, by rw [e]; exact q _ G H st (Ex.refl G) (.bl _)⟩
theorem T_eqB {c c' : Bool} (ha : E X b S1 e (.val (.bool c)) S2) (hb : E X b S2 f (.val (.bool c')) S3) : T X b S1 (.Compare e [.Eq] [f] pos) (decide (c = c')) S3 := T_cmp op_eq r2_eqB (nomark _) ha hb
/-- x, y = a new list, z -/
theorem B_parNV (i j m : Nat) {x y z : Str} {px py pz pt pt2 : Pos} {kt k2 : Nat} {xs : List PyData} {rest : List Stmt} {P : Po} (h1 : E X b S e (.new xs) S1) (hz : PE X (.Name z pz) (tVar m)) (hs1 : S1[m]? = some (.val d)) (hc : X.calm = true) (hN : X.N.Nodup) (hi : X.N[i]? = some x) (hj : X.N[j]? = some y) (hij : i ≠ j) (hx : X.env.scope.names.lookup x = some .local) (hy : X.env.scope.names.lookup y = some .local)
    (k : SS X b ((S1.set i (.own true xs)).set j (.val d)) rest P) (hw : swappedStores [.Tuple [.Name x px, .Name y py] kt pt] (.Tuple [e, .Name z pz] k2 pt2) X.env = pure (some [x, y]) := by rfl) (hs : swapsWithSole [.Tuple [.Name x px, .Name y py] kt pt] (.Tuple [e, .Name z pz] k2 pt2) pos.line X.env = pure false := by rfl)
    (ha : starEach [e, .Name z pz] X.env = (false, eval e X.env) :: starEach [.Name z pz] X.env := by rfl) (ha2 : starEach [.Name z pz] X.env = (false, eval (.Name z pz) X.env) :: starEach [] X.env := by rfl) :
    SS X b S (.Assign [.Tuple [.Name x px, .Name y py] kt pt] (.Tuple [e, .Name z pz] k2 pt2) pos :: rest) P :=
  ss_cons (Mid := fun S' => S' = (S1.set i (.own true xs)).set j (.val d)) (PS.w (ps_par hc hN hi hj hij hx hy (pa_cons h1 (pa_cons hz pa_nil ha2) ha) hw hs) fun D σ H ⟨G, st, q1, _⟩ => ⟨G, st, fun v G2 H2 st2 x r => by
    obtain ⟨w, hw1, rw1⟩ := st2.slot hs1
    exact ⟨w, hw1, v, w, rfl, q1 G2 H2 _ _ ((st2.putNew r).putVal rw1) x rfl⟩⟩) fun S' h => by rw [h]; exact k
end
end D

set_option Elab.async false
set_option linter.all false
set_option maxRecDepth 100000
set_option maxHeartbeats 4000000
set_option autoImplicit false
/-! orders, lines, tales -/
namespace Q
open PySem PySem.Spec PyProof.Rows L2 D
structure Cm (mg : Str → Option Value) : Prop where
  MOST_ORDERS : ∃ t, mg "MOST_ORDERS" = some (.int 200 t)
  MOST_LOAD : ∃ t, mg "MOST_LOAD" = some (.int 10000 t)
abbrev wordsL : List Str := ["find", "lose", "weigh"]
/-- an order of a word and what stands behind it -/
def ordB (n : Nat) (w : Str) (xs : List PyData) : Bool := match xs with
  | [v] => decide (w ∈ wordsL) && numD v 0 (if w = ("weigh" : Str) then 10000 else (n : Int) - 1)
  | _ => false
theorem ordB_ok {n : Nat} {o : OrdT} (h : OrdOk n o) : ordB n (wordS o.1) [.int o.2] = true := by
  obtain ⟨k, x⟩ := o
  obtain ⟨h1, h2, h3, h4⟩ := h
  replace h1 : k ≤ 2 := h1
  replace h2 : 0 ≤ x := h2
  rcases (by omega : k = 0 ∨ k = 1 ∨ k = 2) with rfl | rfl | rfl
  · have h5 : x ≤ 10000 := h3 rfl
    show (decide (("weigh" : Str) ∈ wordsL) && (decide (0 ≤ x) && decide (x ≤ 10000))) = true
    rw [decide_eq_true h2, decide_eq_true h5]
    decide
  · have h5 : x < (n : Int) := h4 (by simp)
    show (decide (("lose" : Str) ∈ wordsL) && (decide (0 ≤ x) && decide (x ≤ (n : Int) - 1))) = true
    rw [decide_eq_true h2, decide_eq_true (by omega : x ≤ (n : Int) - 1)]
    decide
  · have h5 : x < (n : Int) := h4 (by simp)
    show (decide (("find" : Str) ∈ wordsL) && (decide (0 ≤ x) && decide (x ≤ (n : Int) - 1))) = true
    rw [decide_eq_true h2, decide_eq_true (by omega : x ≤ (n : Int) - 1)]
    decide
section
variable {P : Program} {w : World} {K : PySem.W.Frag} {tb : Tbs} {mg : Str → Option Value} {base : Heap} {f : Addr} {fd : FuncData} {cBench cBadNumber cBadStep : Addr}

/-! is_order: 0 box, 1 value -/
abbrev s_is_order : Stmt := topS 29
theorem sc_is_order : FnScope ["box", "value"] ["box", "value"] (defScope s_is_order) := ⟨rfl, rfl, rfl, by decide +kernel, rfl, by decide +kernel, by decide +kernel⟩
def preIsOrder (ds : List PyData) (d : PyData) : Prop := ∃ (ns : List Int) (w : Str) (xs : List PyData), ds = [dT ns, .tuple (.str w :: xs)] ∧ d = .bool (ordB ns.length w xs)
theorem ok_is_order (F : Fun K "is_order" "is_order" s_is_order f fd) (hm : mg "is_order" = some (.ref f)) (B : Bt mg) (cm : Cm mg) (gWORDS : GlobD mg K "WORDS" (.tuple (wordsL.map PyData.str))) (F_is_number : Fd P w K mg base 1 "is_number" ["value", "low", "high"] (spV K tb preNum)) : Fd P w K mg base 2 "is_order" ["box", "value"] (spV K tb preIsOrder) := by
  refine fd_mk F sc_is_order hm (fun _ _ _ _ _ _ us hl => match us, hl with | [_, _], _ => rfl) (fun ds d ⟨_, _, _, h, _⟩ => by rw [h]; rfl) fun cdv A outer s H E b ds d hr hp => ?_
  obtain ⟨ns, wd, xs, rfl, rfl⟩ := hp
  have hlen : (PyData.str wd :: xs).length = xs.length + 1 := rfl
  by_cases h1 : xs.length = 1
  · obtain ⟨v, rfl⟩ : ∃ v, xs = [v] := by
      match xs, h1 with
      | [v], _ => exact ⟨v, rfl⟩
    show SS _ _ _ _ (poV (.bool (decide (wd ∈ wordsL) && numD v 0 (if wd = ("weigh" : Str) then 10000 else (ns.length : Int) - 1))))
    have T1 : decide ((((PyData.str wd :: [v]).length : Nat) : Int) = 2) = true := decide_eq_true rfl
    by_cases hw : wd ∈ wordsL
    · refine B_ifR (c := false) (T_to (W.t (W_or (T_not (T_val (E_isi B.isinstance B.tuple (E_name 1 rfl (pv 1)) bb_tuple rfl))) (fun _ => (W_or (T_nei (E_len (d := .tuple [.str wd, v]) (k := 2) B.len (E_name 1 rfl (pv 1)) rfl) E_int) (fun _ => (W_or (T_not (T_val (E_isi B.isinstance B.str (E_ixT (xs := [.str wd, v]) (d := .str wd) (E_name 1 rfl (pv 1)) E_int rfl) bb_str rfl))) (fun _ => (W_or1 (T_niTS (E_ixT (xs := [.str wd, v]) (d := .str wd) (E_name 1 rfl (pv 1)) E_int rfl) (E_globD gWORDS) rfl))))))))) (by rw [decide_eq_true hw]; rfl)) (fun hc => by cases hc) (fun _ => ?_)
      exact B_ret (E_to (E_call F_is_number hr rfl (A_cons (E_ixT (xs := [.str wd, v]) (d := v) (E_name 1 rfl (pv 1)) E_int rfl) (A_cons E_int (A_cons (E_if (c := decide (wd = ("weigh" : Str))) (r := .val (.int (if wd = ("weigh" : Str) then 10000 else (ns.length : Int) - 1))) (T_eqS (E_ixT (xs := [.str wd, v]) (d := .str wd) (E_name 1 rfl (pv 1)) E_int rfl) E_str) (fun hc => E_to (E_glob cm.MOST_LOAD) (by rw [if_pos (of_decide_eq_true hc)])) (fun hc => E_to (E_sub (E_lenT B.len (E_name 0 rfl (pv 0))) E_int) (by rw [if_neg (of_decide_eq_false hc)]))) A_nil))) ⟨_, _, _, rfl, rfl⟩) (by rw [decide_eq_true hw, Bool.true_and])) rfl
    · refine B_ifR (c := true) (T_to (W.t (W_or (T_not (T_val (E_isi B.isinstance B.tuple (E_name 1 rfl (pv 1)) bb_tuple rfl))) (fun _ => (W_or (T_nei (E_len (d := .tuple [.str wd, v]) (k := 2) B.len (E_name 1 rfl (pv 1)) rfl) E_int) (fun _ => (W_or (T_not (T_val (E_isi B.isinstance B.str (E_ixT (xs := [.str wd, v]) (d := .str wd) (E_name 1 rfl (pv 1)) E_int rfl) bb_str rfl))) (fun _ => (W_or1 (T_niTS (E_ixT (xs := [.str wd, v]) (d := .str wd) (E_name 1 rfl (pv 1)) E_int rfl) (E_globD gWORDS) rfl))))))))) (by rw [decide_eq_false hw]; rfl)) (fun _ => ?_) (fun hc => by cases hc)
      rw [decide_eq_false hw, Bool.false_and]
      exact B_ret E_bool rfl
  · have e : ordB ns.length wd xs = false := by
      match xs, h1 with
      | [], _ => rfl
      | _ :: _ :: _, _ => rfl
    rw [e]
    exact B_ifR (c := true) (T_to (W.t (W_or (T_not (T_val (E_isi B.isinstance B.tuple (E_name 1 rfl (pv 1)) bb_tuple rfl))) (fun _ => (W_or (c1 := true) (c2 := false) (T_to (T_nei (E_len (d := .tuple (.str wd :: xs)) (k := xs.length + 1) B.len (E_name 1 rfl (pv 1)) rfl) E_int) (by rw [decide_eq_false (by omega)]; rfl)) (fun h => by cases h))))) rfl) (fun _ => B_ret E_bool rfl) (fun hc => by cases hc)

/-! need_orders: 0 box, 1 value, 2 index, 3 order -/
abbrev s_need_orders : Stmt := topS 30
theorem sc_need_orders : FnScope ["box", "value", "index", "order"] ["box", "value"] (defScope s_need_orders) := ⟨rfl, rfl, rfl, by decide +kernel, rfl, by decide +kernel, by decide +kernel⟩
def preNeedOrders (ds : List PyData) (d : PyData) : Prop := ∃ (ns : List Int) (os : List OrdT), ds = [dT ns, .tuple (os.map ordD)] ∧ os.length ≤ 200 ∧ (∀ o ∈ os, OrdOk ns.length o) ∧ d = .none
theorem enum_ords (os : List OrdT) : ((os.map ordD).zipIdx.map fun q => PyData.tuple [.int (q.2 : Int), q.1]) = os.zipIdx.map fun q => PyData.tuple [.int (q.2 : Int), ordD q.1] := by
  rw [List.zipIdx_map, List.map_map]
  rfl
theorem ok_need_orders (F : Fun K "need_orders" "need_orders" s_need_orders f fd) (hm : mg "need_orders" = some (.ref f)) (B : Bt mg) (cm : Cm mg) (F_is_order : Fd P w K mg base 2 "is_order" ["box", "value"] (spV K tb preIsOrder)) : Fd P w K mg base 3 "need_orders" ["box", "value"] (spV K tb preNeedOrders) := by
  refine fd_mk F sc_need_orders hm (fun _ _ _ _ _ _ us hl => match us, hl with | [_, _], _ => rfl) (fun ds d ⟨_, _, h, _⟩ => by rw [h]; rfl) fun cdv A outer s H E b ds d hr hp => ?_
  obtain ⟨ns, os, rfl, hl, ho, rfl⟩ := hp
  refine B_ifR (c := false) (T_to (W.t (W_or (T_not (T_val (E_isi B.isinstance B.tuple (E_name 1 rfl (pv 1)) bb_tuple rfl))) (fun _ => (W_or1 (T_gt (E_len (d := .tuple (os.map ordD)) (k := os.length) B.len (E_name 1 rfl (pv 1)) (show some (os.map ordD).length = some os.length by rw [List.length_map])) (E_glob cm.MOST_ORDERS)))))) (by rw [decide_eq_false (by omega)]; rfl)) (fun hc => by cases hc) (fun _ => ?_)
  refine B_then (Mid := fun S' => True) (B_for (xs := os.zipIdx) (enc := fun q => PyData.tuple [.int (q.2 : Int), ordD q.1]) (F := fun q S => (S.set 2 (.val (.int (q.2 : Int)))).set 3 (.val (ordD q.1))) (fun i S' => ∃ v2 v3, S' = [.val (dT ns), .val (.tuple (os.map ordD)), v2, v3]) PassesOwn.never rfl (by rw [← enum_ords]; exact I_enumT B.enumerate (E_name 1 rfl (pv 1))) (pg_tup rfl (pgs_cons (pg_name (i := 2) sc_need_orders.nd rfl (Or.inl rfl)) (pgs_cons (pg_name (i := 3) sc_need_orders.nd rfl (Or.inl rfl)) pgs_nil))) (fun x hx => (g_tup (g_cons g_name (g_cons g_name g_nil)))) ⟨_, _, rfl⟩ (fun i x S' hx hI => ?_) (fun S' h => trivial)) (fun S' h => B_nil rfl)
  obtain ⟨v2, v3, rfl⟩ := hI
  obtain ⟨o, j⟩ := x
  have hmo : o ∈ os := by
    have := List.mem_of_getElem? hx
    exact (List.mem_zipIdx this).2.2 ▸ List.getElem_mem _
  refine B_ifR (c := false) (T_to (T_not (T_val (E_call F_is_order hr rfl (A_cons (E_name 0 rfl (pv 0)) (A_cons (E_name 3 rfl (pv 3)) A_nil)) ⟨ns, wordS o.1, [.int o.2], rfl, rfl⟩))) (by rw [ordB_ok (ho o hmo)]; rfl)) (fun hc => by cases hc) (fun _ => B_nil ⟨_, _, rfl⟩)

/-! line_of: 0 words, 1 word -/
abbrev s_line_of : Stmt := topS 31
theorem sc_line_of : FnScope ["words", "word"] ["words"] (defScope s_line_of) := ⟨rfl, rfl, rfl, by decide +kernel, rfl, by decide +kernel, by decide +kernel⟩
def preLineOf (ds : List PyData) (d : PyData) : Prop := ∃ xs : List PyData, ds = [.tuple xs] ∧ xs.length ≤ 100 ∧ (∀ x ∈ xs, Telling x ∧ (strD x).length ≤ 500) ∧ d = .str (Str.join (" " : Str) (xs.map strD))
theorem line_len {xs : List PyData} (h1 : xs.length ≤ 100) (h2 : ∀ x ∈ xs, Telling x ∧ (strD x).length ≤ 500) : ((xs.map strD).map (·.length)).sum + (xs.map strD).length * (" " : Str).length ≤ 100000 := by
  have h3 := sum_le_of (ys := xs.map strD) (k := 500) (fun y hy => by
    obtain ⟨x, hx, rfl⟩ := List.mem_map.mp hy
    exact (h2 x hx).2)
  have e : (" " : Str).length = 1 := by decide
  rw [e]
  rw [List.length_map] at h3 ⊢
  omega
theorem ok_line_of (F : Fun K "line_of" "line_of" s_line_of f fd) (hm : mg "line_of" = some (.ref f)) (B : Bt mg) : Fd P w K mg base 1 "line_of" ["words"] (spV K tb preLineOf) := by
  refine fd_mk F sc_line_of hm (fun _ _ _ _ _ _ us hl => match us, hl with | [_], _ => rfl) (fun ds d ⟨_, h, _⟩ => by rw [h]; rfl) fun cdv A outer s H E b ds d hr hp => ?_
  obtain ⟨xs, rfl, hl, hx, rfl⟩ := hp
  have hz := line_len hl hx
  exact B_ret (E_join E_str (E_fz (E_toN (E_lc (own := [("word", 1)]) (xs := xs) (enc := fun d => d) (F := fun d S => S.set 1 (.val d)) (fun _ => true) strD PyData.str rfl sc_line_of.nd (by rw [List.map_id']; exact I_tup (E_name 0 rfl (pv 0))) (blkOk_by (N := ["words", "word"]) (sc := defScope s_line_of) (by decide +kernel)) (fun _ _ _ _ _ => (pg_name (i := 1) sc_line_of.nd rfl (Or.inl rfl))) (fun _ x hx => g_name) (by decide) (fun b x hx s H C cl fp => PTs_nil) (fun b x hx' hp s H C cl fp => (E_strD B.str (E_name 1 rfl (pv 1)) (hx x hx').1)) (fun _ _ => rfl) (sz_lt (by omega)) rfl) (by rw [List.filter_eq_self.mpr (fun _ _ => rfl)]))) hz) rfl

/-! weights_text: 0 weights, 1 weight -/
abbrev s_weights_text : Stmt := topS 32
theorem sc_weights_text : FnScope ["weights", "weight"] ["weights"] (defScope s_weights_text) := ⟨rfl, rfl, rfl, by decide +kernel, rfl, by decide +kernel, by decide +kernel⟩
def preWeightsText (ds : List PyData) (d : PyData) : Prop := ∃ t : List Int, ds = [dT t] ∧ t.length ≤ 10 ∧ (∀ x ∈ t, 0 ≤ x ∧ x ≤ 1000) ∧ d = .str (wtxt t)
theorem ok_weights_text (F : Fun K "weights_text" "weights_text" s_weights_text f fd) (hm : mg "weights_text" = some (.ref f)) (B : Bt mg) : Fd P w K mg base 1 "weights_text" ["weights"] (spV K tb preWeightsText) := by
  refine fd_mk F sc_weights_text hm (fun _ _ _ _ _ _ us hl => match us, hl with | [_], _ => rfl) (fun ds d ⟨_, h, _⟩ => by rw [h]; rfl) fun cdv A outer s H E b ds d hr hp => ?_
  obtain ⟨t, rfl, hl, hx, rfl⟩ := hp
  cases t with
  | nil => exact B_ret (E_if (c := false) (T_tru (d := dT []) (E_name 0 rfl (pv 0))) (fun hc => by cases hc) (fun _ => E_str)) rfl
  | cons y ys =>
    have e : wtxt (y :: ys) = Str.join (" + " : Str) ((y :: ys).map numS) := if_neg (by simp)
    rw [e]
    have h3 := sum_le_of (ys := (y :: ys).map numS) (k := 4) (fun p hp => by
      obtain ⟨x, hx', rfl⟩ := List.mem_map.mp hp
      have := hx x hx'
      exact numS_len (by decide) this.1 (by omega))
    have e3 : (" + " : Str).length = 3 := by decide
    have hz : (((y :: ys).map numS).map (·.length)).sum + ((y :: ys).map numS).length * (" + " : Str).length ≤ 100000 := by
      rw [e3]
      rw [List.length_map] at h3 ⊢
      omega
    exact B_ret (E_if (c := true) (T_tru (d := dT (y :: ys)) (E_name 0 rfl (pv 0))) (fun _ => E_join E_str (E_fz (E_toN (E_lc (own := [("weight", 1)]) (xs := y :: ys) (enc := PyData.int) (F := fun d S => S.set 1 (.val (.int d))) (fun _ => true) numS PyData.str rfl sc_weights_text.nd (I_tup (E_name 0 rfl (pv 0))) (blkOk_by (N := ["weights", "weight"]) (sc := defScope s_weights_text) (by decide +kernel)) (fun _ _ _ _ _ => (pg_name (i := 1) sc_weights_text.nd rfl (Or.inl rfl))) (fun _ x hx => g_name) (by decide) (fun b x hx s H C cl fp => PTs_nil) (fun b x hx' hp s H C cl fp => (E_strI B.str (E_name 1 rfl (pv 1)) (by have := hx x hx'; omega))) (fun _ _ => rfl) (sz_lt (by omega)) rfl) (by rw [List.filter_eq_self.mpr (fun _ _ => rfl)]))) hz) (fun hc => by cases hc)) rfl

/-! told_of: 0 bench, 1 order -/
abbrev s_told_of : Stmt := topS 33
theorem sc_told_of : FnScope ["bench", "order"] ["bench", "order"] (defScope s_told_of) := ⟨rfl, rfl, rfl, by decide +kernel, rfl, by decide +kernel, by decide +kernel⟩
def preTold (fs : List (Str × PyData)) (ds : List PyData) (d : PyData) (fs' : List (Str × PyData)) : Prop := ∃ (ns L : List Int) (o : OrdT), fs = bF ns L ∧ ds = [ordD o] ∧ BOk ns L ∧ OrdOk ns.length o ∧ d = .str (toldV ns L o) ∧ fs' = bF ns (nextV L o)
theorem reach_le {ns L : List Int} (h : IsBox ns) : 0 ≤ reachV (leftV ns L) ∧ reachV (leftV ns L) ≤ 10000 := by
  obtain ⟨l1, l2, l3⟩ := left_box (L := L) h
  have h0 : ∀ x ∈ leftV ns L, 0 ≤ x := fun x hx => by have := l3 x hx; omega
  rw [reach_safe l2 h0]
  have h1 : safeOf (leftV ns L) 0 ≤ (leftV ns L).sum := sum_sub_le (List.take_sublist _ _) h0
  have h2 : 0 ≤ safeOf (leftV ns L) 0 := sum_sub_le (List.nil_sublist ((leftV ns L).take (gapOf (leftV ns L) 0))) fun x hx => h0 x (List.mem_of_mem_take hx)
  have h3 : (leftV ns L).sum ≤ 1000 * (leftV ns L).length := sum_le_mul fun x hx => (l3 x hx).2
  exact ⟨h2, by omega⟩
theorem weighS_none {ns L : List Int} {n : Int} (h : weighD (leftV ns L) n = .none) : weighS (leftV ns L) n = ("not weighed" : Str) := by
  unfold weighD at h
  unfold weighS
  split at h
  · cases h
  · rename_i c; exact if_neg c
theorem weighS_some {ns L t : List Int} {n : Int} (h : weighD (leftV ns L) n = dT t) : weighS (leftV ns L) n = wtxt t := by
  unfold weighD at h
  unfold weighS
  split at h
  · rename_i c
    rw [if_pos c, dT_inj h]
  · cases h
theorem taken_box {ns L t : List Int} {n : Int} (hb : IsBox ns) (h : weighD (leftV ns L) n = dT t) : t.length ≤ 10 ∧ (∀ x ∈ t, 0 ≤ x ∧ x ≤ 1000) ∧ n ≤ ns.sum := by
  obtain ⟨h1, h2⟩ := weighD_sum h
  obtain ⟨l1, l2, l3⟩ := left_box (L := L) hb
  have hl := h2.length_le
  rw [List.length_reverse] at hl
  refine ⟨by omega, fun x hx => by have := l3 x (List.mem_reverse.mp (h2.subset hx)); omega, ?_⟩
  have h3 : t.sum ≤ (leftV ns L).reverse.sum := sum_sub_le h2 fun x hx => by have := l3 x (List.mem_reverse.mp hx); omega
  rw [List.sum_reverse] at h3
  have h4 : (leftV ns L).sum ≤ ns.sum := sum_sub_le (leftV_sub ns L) fun x hx => by have := hb.pos x hx; omega
  omega
theorem told_len {ns L : List Int} {o : OrdT} (hb : IsBox ns) : (toldV ns L o).length ≤ 80 := by
  unfold toldV
  split
  · rcases weighD_cases (leftV ns L) o.2 with hw | ⟨t, ht⟩
    · rw [weighS_none hw]; decide
    · rw [weighS_some ht]
      obtain ⟨h1, h2, _⟩ := taken_box hb ht
      have := wtxt_len h2 h1
      omega
  · split
    · decide
    · obtain ⟨h1, h2⟩ := reach_le (L := nextV L o) hb
      have h3 := numS_len (n := reachV (leftV ns (nextV L o))) (k := 5) (by decide) h1 (by omega)
      have e : ("reach " : Str).length = 6 := by decide
      rw [Str.length_append, e]
      omega
theorem ok_told_of (F : Fun K "told_of" "told_of" s_told_of f fd) (hm : mg "told_of" = some (.ref f)) (B : Bt mg) (yBench : Cls K cBench) (xBadStep : Xc0 K mg "BadStep" cBadStep) (eBadStep : PySem.W.exmOne K (.ref cBadStep) (.ref cBadStep) = some true) (F_weights_text : Fd P w K mg base 1 "weights_text" ["weights"] (spV K tb preWeightsText)) (M_Bench3 : Mp P w K mg base 4 cBench "reach" (spM K tb cBench preBench3)) (M_Bench4 : Md P w K mg base CX0 3 cBench "lose" ["self", "place"] (spM K tb cBench preBench4)) (MX_Bench4 : Md P w K mg base (L2.CX P w) 3 cBench "lose" ["self", "place"] (spMX K mg tb cBench preBench4X)) (M_Bench5 : Md P w K mg base CX0 3 cBench "find" ["self", "place"] (spM K tb cBench preBench5)) (MX_Bench5 : Md P w K mg base (L2.CX P w) 3 cBench "find" ["self", "place"] (spMX K mg tb cBench preBench5X)) (M_Bench6 : Md P w K mg base CX0 6 cBench "weigh" ["self", "load"] (spM K tb cBench preBench6)) (MX_Bench6 : Md P w K mg base (L2.CX P w) 6 cBench "weigh" ["self", "load"] (spMX K mg tb cBench preBench6X)) : Fd P w K mg base 7 "told_of" ["bench", "order"] (spM K tb cBench preTold) := by
  refine fd_mkM F sc_told_of hm (fun _ _ _ _ _ _ us hl => match us, hl with | [_, _], _ => rfl) (fun fs ds d fs' ⟨_, _, _, _, h, _⟩ => by rw [h]; rfl) fun cdv A outer s H E b fs ds d fs' hr hp => ?_
  obtain ⟨ns, L, o, rfl, rfl, hb, ho, rfl, rfl⟩ := hp
  obtain ⟨k, n⟩ := o
  obtain ⟨h1, h2, h3, h4⟩ := ho
  replace h1 : k ≤ 2 := h1
  replace h2 : 0 ≤ n := h2
  rcases (by omega : k = 0 ∨ k = 1 ∨ k = 2) with rfl | rfl | rfl
  · have h5 : n ≤ 10000 := h3 rfl
    have et : toldV ns L (0, n) = weighS (leftV ns L) n := rfl
    have en : nextV L (0, n) = L := rfl
    rw [et, en]
    rcases weighD_cases (leftV ns L) n with hw | ⟨t, ht⟩
    · rw [weighS_none hw]
      refine B_try (Mid := fun _ => False) (fun cls fo S' => cls = .ref cBadStep ∧ S' = [.ins false cBench (bF ns L), .val (ordD (0, n))]) rfl rfl ⟨rfl, by decide, .inl xBadStep.g⟩ (fun W pn xe tk po => ?_) (fun cls fo S' h => by rw [h.1]; exact eBadStep) (fun a oe cls d fo pn S' h hz hv => ?_) (fun S' h => h.elim)
      · exact B_ifR (c := true) (T_to (T_eqS (E_ixT (xs := [.str "weigh", .int n]) (d := .str "weigh") (E_name 1 rfl (pv 1)) E_int rfl) E_str) (decide_eq_true rfl)) (fun _ => B_retX (EX_args F_weights_text (hr.mono (by decide)) rfl (A_x1 (EX_meth 0 yBench MX_Bench6 tk hr ⟨_, rfl, bF_no (by decide) (by decide)⟩ (pv 0) (A_cons (E_ixT (xs := [.str "weigh", .int n]) (d := .int n) (E_name 1 rfl (pv 1)) E_int rfl) A_nil) rfl ⟨ns, L, .int n, rfl, rfl, hb, rfl, .inr ⟨n, rfl, h2, h5, .inr hw, rfl⟩⟩ xBadStep.g))) ⟨rfl, rfl⟩) (fun hc => by cases hc)
      · obtain ⟨rfl, rfl⟩ := h
        exact B_ret (E_if (c := true) (r := .val (.str "not weighed")) (T_to (T_eqS (E_ixT (xs := [.str "weigh", .int n]) (d := .str "weigh") (E_name 1 rfl (pv 1)) E_int rfl) E_str) (decide_eq_true rfl)) (fun _ => E_str) (fun hc => by cases hc)) ⟨rfl, rfl⟩
    · rw [weighS_some ht]
      obtain ⟨t1, t2, t3⟩ := taken_box hb.1 ht
      refine B_try (Mid := fun _ => False) (fun cls fo S' => False) rfl rfl ⟨rfl, by decide, .inl xBadStep.g⟩ (fun W pn xe tk po => ?_) (fun cls fo S' h => h.elim) (fun a oe cls d fo pn S' h hz hv => h.elim) (fun S' h => h.elim)
      exact B_ifR (c := true) (T_to (T_eqS (E_ixT (xs := [.str "weigh", .int n]) (d := .str "weigh") (E_name 1 rfl (pv 1)) E_int rfl) E_str) (decide_eq_true rfl)) (fun _ => B_ret (E_call F_weights_text (hr.mono (by decide)) rfl (A_cons (E_meth (d := dT t) 0 yBench M_Bench6 hr ⟨_, rfl, bF_no (by decide) (by decide)⟩ (pv 0) (A_cons (E_ixT (xs := [.str "weigh", .int n]) (d := .int n) (E_name 1 rfl (pv 1)) E_int rfl) A_nil) rfl ⟨ns, L, n, t, rfl, rfl, hb, h2, t3, ht, rfl, rfl⟩) A_nil) ⟨t, rfl, t1, t2, rfl⟩) ⟨rfl, rfl⟩) (fun hc => by cases hc)
  · have h5 : n < (ns.length : Int) := h4 (by simp)
    by_cases hm' : n ∈ L
    · have et : toldV ns L (1, n) = ("not done" : Str) := by
        unfold toldV
        rw [if_neg (by simp), if_pos (by simp [hm'])]
      have en : nextV L (1, n) = L := by
        unfold nextV
        rw [if_neg (by simp), if_pos (by simp [hm'])]
      rw [et, en]
      refine B_try (Mid := fun _ => False) (fun cls fo S' => cls = .ref cBadStep ∧ S' = [.ins false cBench (bF ns L), .val (ordD (1, n))]) rfl rfl ⟨rfl, by decide, .inl xBadStep.g⟩ (fun W pn xe tk po => ?_) (fun cls fo S' h => by rw [h.1]; exact eBadStep) (fun a oe cls d fo pn S' h hz hv => ?_) (fun S' h => h.elim)
      · refine B_ifR (c := false) (T_to (T_eqS (E_ixT (xs := [.str "lose", .int n]) (d := .str "lose") (E_name 1 rfl (pv 1)) E_int rfl) E_str) (by decide)) (fun hc => by cases hc) (fun _ => ?_)
        exact B_if (Mid := fun _ => False) (c := true) (T_to (T_eqS (E_ixT (xs := [.str "lose", .int n]) (d := .str "lose") (E_name 1 rfl (pv 1)) E_int rfl) E_str) (decide_eq_true rfl)) (fun _ => B_exprX (EX_meth 0 yBench MX_Bench4 tk (hr.mono (by decide)) ⟨_, rfl, bF_no (by decide) (by decide)⟩ (pv 0) (A_cons (E_ixT (xs := [.str "lose", .int n]) (d := .int n) (E_name 1 rfl (pv 1)) E_int rfl) A_nil) rfl ⟨ns, L, .int n, rfl, rfl, hb, rfl, .inr ⟨n, rfl, h2, h5, hm', rfl⟩⟩ xBadStep.g) ⟨rfl, rfl⟩) (fun hc => by cases hc) (fun S' h => h.elim)
      · obtain ⟨rfl, rfl⟩ := h
        exact B_ret (E_if (c := false) (r := .val (.str "not done")) (T_to (T_eqS (E_ixT (xs := [.str "lose", .int n]) (d := .str "lose") (E_name 1 rfl (pv 1)) E_int rfl) E_str) (by decide)) (fun hc => by cases hc) (fun _ => E_str)) ⟨rfl, rfl⟩
    · have en : nextV L (1, n) = sortI (L ++ [n]) := by
        unfold nextV
        rw [if_neg (by simp), if_neg (by simp [hm']), if_pos rfl]
      have et : toldV ns L (1, n) = ("reach " : Str) ++ numS (reachV (leftV ns (sortI (L ++ [n])))) := by
        unfold toldV
        rw [if_neg (by simp), if_neg (by simp [hm']), en]
      have hb2 : BOk ns (sortI (L ++ [n])) := ⟨hb.1, en ▸ next_ok (o := (1, n)) hb.2 ⟨by simp, h2, by simp, fun _ => h5⟩⟩
      obtain ⟨r1, r2⟩ := reach_le (L := sortI (L ++ [n])) hb.1
      have r3 := numS_len (n := reachV (leftV ns (sortI (L ++ [n])))) (k := 5) (by decide) r1 (by omega)
      have e6 : ("reach " : Str).length = 6 := by decide
      rw [et, en]
      refine B_try (Mid := fun S' => S' = [.ins false cBench (bF ns (sortI (L ++ [n]))), .val (ordD (1, n))]) (fun cls fo S' => False) rfl rfl ⟨rfl, by decide, .inl xBadStep.g⟩ (fun W pn xe tk po => ?_) (fun cls fo S' h => h.elim) (fun a oe cls d fo pn S' h hz hv => h.elim) (fun S' h => ?_)
      · refine B_ifR (c := false) (T_to (T_eqS (E_ixT (xs := [.str "lose", .int n]) (d := .str "lose") (E_name 1 rfl (pv 1)) E_int rfl) E_str) (by decide)) (fun hc => by cases hc) (fun _ => ?_)
        exact B_if (Mid := fun S' => S' = [.ins false cBench (bF ns (sortI (L ++ [n]))), .val (ordD (1, n))]) (c := true) (T_to (T_eqS (E_ixT (xs := [.str "lose", .int n]) (d := .str "lose") (E_name 1 rfl (pv 1)) E_int rfl) E_str) (decide_eq_true rfl)) (fun _ => B_expr (E_meth 0 yBench M_Bench4 (hr.mono (by decide)) ⟨_, rfl, bF_no (by decide) (by decide)⟩ (pv 0) (A_cons (E_ixT (xs := [.str "lose", .int n]) (d := .int n) (E_name 1 rfl (pv 1)) E_int rfl) A_nil) rfl ⟨ns, L, n, rfl, rfl, hb, h2, h5, hm', rfl, rfl⟩) (B_nil rfl)) (fun hc => by cases hc) (fun S' h => B_nil h)
      · subst h
        exact B_ret (E_addS E_str (E_strI B.str (E_prop (d := .int (reachV (leftV ns (sortI (L ++ [n]))))) 0 yBench M_Bench3 (hr.mono (by decide)) rfl (pv 0) ⟨ns, _, rfl, rfl, hb2, rfl, rfl⟩) (by omega)) (by omega)) ⟨rfl, rfl⟩
  · have h5 : n < (ns.length : Int) := h4 (by simp)
    by_cases hm' : n ∈ L
    · have en : nextV L (2, n) = L.filter fun x => !decide (x = n) := by
        unfold nextV
        rw [if_neg (by simp), if_neg (by simp [hm']), if_neg (by simp)]
      have et : toldV ns L (2, n) = ("reach " : Str) ++ numS (reachV (leftV ns (L.filter fun x => !decide (x = n)))) := by
        unfold toldV
        rw [if_neg (by simp), if_neg (by simp [hm']), en]
      have hb2 : BOk ns (L.filter fun x => !decide (x = n)) := ⟨hb.1, en ▸ next_ok (o := (2, n)) hb.2 ⟨by simp, h2, by simp, fun _ => h5⟩⟩
      obtain ⟨r1, r2⟩ := reach_le (L := L.filter fun x => !decide (x = n)) hb.1
      have r3 := numS_len (n := reachV (leftV ns (L.filter fun x => !decide (x = n)))) (k := 5) (by decide) r1 (by omega)
      have e6 : ("reach " : Str).length = 6 := by decide
      rw [et, en]
      refine B_try (Mid := fun S' => S' = [.ins false cBench (bF ns (L.filter fun x => !decide (x = n))), .val (ordD (2, n))]) (fun cls fo S' => False) rfl rfl ⟨rfl, by decide, .inl xBadStep.g⟩ (fun W pn xe tk po => ?_) (fun cls fo S' h => h.elim) (fun a oe cls d fo pn S' h hz hv => h.elim) (fun S' h => ?_)
      · refine B_ifR (c := false) (T_to (T_eqS (E_ixT (xs := [.str "find", .int n]) (d := .str "find") (E_name 1 rfl (pv 1)) E_int rfl) E_str) (by decide)) (fun hc => by cases hc) (fun _ => ?_)
        exact B_if (Mid := fun S' => S' = [.ins false cBench (bF ns (L.filter fun x => !decide (x = n))), .val (ordD (2, n))]) (c := false) (T_to (T_eqS (E_ixT (xs := [.str "find", .int n]) (d := .str "find") (E_name 1 rfl (pv 1)) E_int rfl) E_str) (by decide)) (fun hc => by cases hc) (fun _ => B_expr (E_meth 0 yBench M_Bench5 (hr.mono (by decide)) ⟨_, rfl, bF_no (by decide) (by decide)⟩ (pv 0) (A_cons (E_ixT (xs := [.str "find", .int n]) (d := .int n) (E_name 1 rfl (pv 1)) E_int rfl) A_nil) rfl ⟨ns, L, n, rfl, rfl, hb, h2, h5, hm', rfl, rfl⟩) (B_nil rfl)) (fun S' h => B_nil h)
      · subst h
        exact B_ret (E_addS E_str (E_strI B.str (E_prop (d := .int (reachV (leftV ns (L.filter fun x => !decide (x = n))))) 0 yBench M_Bench3 (hr.mono (by decide)) rfl (pv 0) ⟨ns, _, rfl, rfl, hb2, rfl, rfl⟩) (by omega)) (by omega)) ⟨rfl, rfl⟩
    · have et : toldV ns L (2, n) = ("not done" : Str) := by
        unfold toldV
        rw [if_neg (by simp), if_pos (by simp [hm'])]
      have en : nextV L (2, n) = L := by
        unfold nextV
        rw [if_neg (by simp), if_pos (by simp [hm'])]
      rw [et, en]
      refine B_try (Mid := fun _ => False) (fun cls fo S' => cls = .ref cBadStep ∧ S' = [.ins false cBench (bF ns L), .val (ordD (2, n))]) rfl rfl ⟨rfl, by decide, .inl xBadStep.g⟩ (fun W pn xe tk po => ?_) (fun cls fo S' h => by rw [h.1]; exact eBadStep) (fun a oe cls d fo pn S' h hz hv => ?_) (fun S' h => h.elim)
      · refine B_ifR (c := false) (T_to (T_eqS (E_ixT (xs := [.str "find", .int n]) (d := .str "find") (E_name 1 rfl (pv 1)) E_int rfl) E_str) (by decide)) (fun hc => by cases hc) (fun _ => ?_)
        exact B_if (Mid := fun _ => False) (c := false) (T_to (T_eqS (E_ixT (xs := [.str "find", .int n]) (d := .str "find") (E_name 1 rfl (pv 1)) E_int rfl) E_str) (by decide)) (fun hc => by cases hc) (fun _ => B_exprX (EX_meth 0 yBench MX_Bench5 tk (hr.mono (by decide)) ⟨_, rfl, bF_no (by decide) (by decide)⟩ (pv 0) (A_cons (E_ixT (xs := [.str "find", .int n]) (d := .int n) (E_name 1 rfl (pv 1)) E_int rfl) A_nil) rfl ⟨ns, L, .int n, rfl, rfl, hb, rfl, .inr ⟨n, rfl, h2, h5, hm', rfl⟩⟩ xBadStep.g) ⟨rfl, rfl⟩) (fun S' h => h.elim)
      · obtain ⟨rfl, rfl⟩ := h
        exact B_ret (E_if (c := false) (r := .val (.str "not done")) (T_to (T_eqS (E_ixT (xs := [.str "find", .int n]) (d := .str "find") (E_name 1 rfl (pv 1)) E_int rfl) E_str) (by decide)) (fun hc => by cases hc) (fun _ => E_str)) ⟨rfl, rfl⟩

/-! tale: 0 box, 1 orders, 2 bench*, 3 order -/
abbrev s_tale : Stmt := topS 34
theorem sc_tale : FnScope ["box", "orders", "bench", "order"] ["box", "orders"] (defScope s_tale) := ⟨rfl, rfl, rfl, by decide +kernel, rfl, by decide +kernel, by decide +kernel⟩
def preTale (ds : List PyData) (d : PyData) : Prop := ∃ (ns : List Int) (os : List OrdT), ds = [dT ns, .tuple (os.map ordD)] ∧ IsBox ns ∧ os.length ≤ 200 ∧ (∀ o ∈ os, OrdOk ns.length o) ∧ d = .str (taleV ns os)
theorem ord_tells {n : Nat} {o : OrdT} (h : OrdOk n o) (hn : n ≤ 10) : ∀ x ∈ ([.str (wordS o.1), .int o.2] : List PyData), Telling x ∧ (strD x).length ≤ 500 := by
  have hw := word_len o.1
  have h1 : o.2 ≤ 10000 := by
    by_cases c : o.1 = 0
    · exact h.w c
    · have := h.p c; omega
  have h2 := h.lo
  intro x hx
  rcases List.mem_cons.mp hx with rfl | hx
  · exact ⟨.inr ⟨_, rfl⟩, by show (wordS o.1).length ≤ 500; omega⟩
  · rw [List.mem_singleton.mp hx]
    exact ⟨.inl ⟨_, rfl, by omega⟩, Nat.le_trans (numS_len (k := 5) (by decide) h2 (by omega)) (by decide)⟩
theorem head_len {n : Nat} {o : OrdT} (h : OrdOk n o) (hn : n ≤ 10) : (Str.join (" " : Str) [wordS o.1, numS o.2]).length ≤ 20 := by
  have hw := word_len o.1
  have h1 : o.2 ≤ 10000 := by
    by_cases c : o.1 = 0
    · exact h.w c
    · have := h.p c; omega
  have h2 := h.lo
  have h3 := join_len (" " : Str) [wordS o.1, numS o.2]
  have h4 := numS_len (n := o.2) (k := 5) (by decide) h2 (by omega)
  have e : (" " : Str).length = 1 := by decide
  rw [e] at h3
  simp only [List.map_cons, List.map_nil, List.sum_cons, List.sum_nil, List.length_cons, List.length_nil] at h3
  omega
theorem lineT_len {ns L : List Int} {o : OrdT} (hb : IsBox ns) (h : OrdOk ns.length o) : (lineT ns L o).length ≤ 103 := by
  have h1 := head_len h hb.hi
  have h2 := told_len (L := L) (o := o) hb
  have e1 : (": " : Str).length = 2 := by decide
  have e2 : ("\n" : Str).length = 1 := by decide
  unfold lineT
  rw [Str.length_append, Str.length_append, Str.length_append, e1, e2]
  omega
theorem lcOut_range {α : Type} (f : Nat → α → PyData) (d : α) : ∀ (k : Nat) (xs : List α), lcOut (fun _ _ => true) f k xs = (List.range xs.length).map fun i => f (k + i) (xs.getD i d)
  | _, [] => rfl
  | k, x :: xs => by
    have h := lcOut_range f d (k + 1) xs
    show f k x :: lcOut (fun _ _ => true) f (k + 1) xs = _
    rw [h, List.length_cons, List.range_succ_eq_map, List.map_cons, List.map_map]
    congr 1
    refine List.map_congr_left fun i _ => ?_
    show f (k + 1 + i) (xs.getD i d) = f (k + (i + 1)) (xs.getD i d)
    rw [show k + 1 + i = k + (i + 1) by omega]
theorem texts_len {ns : List Int} {os : List OrdT} (hb : IsBox ns) (ho : ∀ o ∈ os, OrdOk ns.length o) {i : Nat} (hi : i ≤ os.length) : ∀ y ∈ textsV ns os i, y.length ≤ 103 := fun y hy => by
  obtain ⟨j, hj, rfl⟩ := List.mem_map.mp hy
  have hj' := List.mem_range.mp hj
  refine lineT_len hb (ho _ ?_)
  rw [getD_of (List.getElem?_eq_getElem (by omega : j < os.length))]
  exact List.getElem_mem _
theorem ok_tale (F : Fun K "tale" "tale" s_tale f fd) (hm : mg "tale" = some (.ref f)) (B : Bt mg) (yBench : Cls K cBench) (gBench : mg "Bench" = some (.ref cBench)) (F_line_of : Fd P w K mg base 1 "line_of" ["words"] (spV K tb preLineOf)) (F_need_box : Fd P w K mg base 2 "need_box" ["value"] (spV K tb preNeedBox)) (F_need_orders : Fd P w K mg base 3 "need_orders" ["box", "value"] (spV K tb preNeedOrders)) (F_told_of : Fd P w K mg base 7 "told_of" ["bench", "order"] (spM K tb cBench preTold)) (M_Bench0 : Mi P w K mg base CX0 3 cBench ["self", "box"] (spM K tb cBench preBench0)) : Fd P w K mg base 8 "tale" ["box", "orders"] (spV K tb preTale) := by
  refine fd_mk F sc_tale hm (fun _ _ _ _ _ _ us hl => match us, hl with | [_, _], _ => rfl) (fun ds d ⟨_, _, h, _⟩ => by rw [h]; rfl) fun cdv A outer s H E b ds d hr hp => ?_
  obtain ⟨ns, os, rfl, hb, hl, ho, rfl⟩ := hp
  refine B_expr (E_call F_need_box (hr.mono (by decide)) rfl (A_cons (E_name 0 rfl (pv 0)) A_nil) ⟨ns, rfl, hb, rfl⟩) ?_
  refine B_expr (E_call F_need_orders (hr.mono (by decide)) rfl (A_cons (E_name 0 rfl (pv 0)) (A_cons (E_name 1 rfl (pv 1)) A_nil)) ⟨ns, os, rfl, hl, ho, rfl⟩) ?_
  refine B_obj 2 (E_make M_Bench0 gBench (hr.mono (by decide)) rfl (A_cons (E_name 0 rfl (pv 0)) A_nil) ⟨ns, rfl, rfl, hb, rfl, rfl⟩) sc_tale.nd rfl (Or.inr rfl) ?_
  have hz : ((textsV ns os os.length).map (·.length)).sum + (textsV ns os os.length).length * Str.empty.length ≤ 100000 := by
    have h3 := sum_le_of (texts_len hb ho (Nat.le_refl os.length))
    have e : Str.empty.length = 0 := rfl
    rw [e]
    have e2 : (textsV ns os os.length).length = os.length := by unfold textsV; rw [List.length_map, List.length_range]
    rw [e2] at h3 ⊢
    omega
  let T : Nat → List Sl := fun i => [.val (dT ns), .val (.tuple (os.map ordD)), .ins true cBench (bF ns (lostAt os i)), .emp]
  let U : Nat → OrdT → List Sl := fun i o => [.val (dT ns), .val (.tuple (os.map ordD)), .ins true cBench (bF ns (lostAt os i)), .val (ordD o)]
  let W : Nat → OrdT → List Sl := fun i o => [.val (dT ns), .val (.tuple (os.map ordD)), .ins true cBench (bF ns (lostAt os (i + 1))), .val (ordD o)]
  refine B_ret (E_join E_str (E_fz (E_toN (E_lcG (own := [("order", 3)]) (xs := os) (enc := ordD) (F := fun o S => S.set 3 (.val (ordD o))) T (fun _ _ => true) (fun i o => .str (lineT ns (lostAt os i) o)) U W rfl sc_tale.nd (I_tup (E_name 1 rfl (pv 1))) (blkOk_by (N := ["box", "orders", "bench", "order"]) (sc := defScope s_tale) (by decide +kernel)) (fun _ _ _ _ _ => (pg_name (i := 3) sc_tale.nd rfl (Or.inl rfl))) (fun _ x hx => g_name) (by decide) rfl (fun b i x hx s H C cl fp => PTs_nil) (fun b i o hx hp s H C cl fp => ?_) (fun i o hx => rfl) (fun _ _ _ _ => trivial) (sz_lt (by omega)) rfl) (by rw [lcOut_range _ (0, 0)]; simp only [Nat.zero_add]; unfold textsV; rw [List.map_map]; rfl))) hz) rfl
  have hmo : o ∈ os := List.mem_of_getElem? hx
  have hok := ho o hmo
  have h1 := head_len hok hb.hi
  have h2 := told_len (L := lostAt os i) (o := o) hb
  have e1 : (": " : Str).length = 2 := by decide
  have e2 : ("\n" : Str).length = 1 := by decide
  have hLo : BOk ns (lostAt os i) := ⟨hb, lost_ok ho i⟩
  have es := lost_succ hx
  refine E_addS (E_addS (E_addS (E_call F_line_of (hr.mono (by decide)) rfl (A_cons (E_name 3 rfl (pv 3)) A_nil) ⟨[.str (wordS o.1), .int o.2], rfl, by simp, ord_tells hok hb.hi, rfl⟩) E_str ?_) (E_st (E_callM 2 F_told_of hr rfl (pv 2) (A_cons (E_name 3 rfl (pv 3)) A_nil) ⟨_, rfl⟩ rfl ⟨ns, lostAt os i, o, rfl, rfl, hLo, hok, rfl, rfl⟩) ?_) ?_) E_str ?_
  · show (Str.join (" " : Str) [wordS o.1, numS o.2]).length + (": " : Str).length ≤ _
    omega
  · show _ = [_, _, Sl.ins true cBench (bF ns (lostAt os (i + 1))), _]
    rw [es]
    rfl
  · rw [Str.length_append]
    show (Str.join (" " : Str) [wordS o.1, numS o.2]).length + _ + _ ≤ _
    omega
  · rw [Str.length_append, Str.length_append]
    show (Str.join (" " : Str) [wordS o.1, numS o.2]).length + _ + _ + _ ≤ _
    omega
end
end Q

set_option Elab.async false
set_option linter.all false
set_option maxRecDepth 100000
set_option maxHeartbeats 4000000
set_option autoImplicit false
/-! the law's own way of weighing; orders drawn -/
namespace Q
open PySem PySem.Spec PyProof.Rows L2 D
/-- an order drawn: s the sum of a box, n how many weights -/
def ordStep (sc : List Int) (s n : Int) (w : Dw) : OrdT × Dw :=
  if (takenV sc w 3).1 = 0 then ((0, min 10000 (takenV sc (takenV sc w 3).2 (s + 3)).1), (takenV sc (takenV sc w 3).2 (s + 3)).2)
  else (((takenV sc w 3).1.toNat, (takenV sc (takenV sc w 3).2 n).1), (takenV sc (takenV sc w 3).2 n).2)
def ordersV (sc : List Int) (s n : Int) (w : Dw) : Nat → List OrdT × Dw
  | 0 => ([], w)
  | i + 1 => ((ordersV sc s n w i).1 ++ [(ordStep sc s n (ordersV sc s n w i).2).1], (ordStep sc s n (ordersV sc s n w i).2).2)
theorem ordStep_ok {sc : List Int} {ns : List Int} {w : Dw} (hb : IsBox ns) (h : RowOk w) : OrdOk ns.length (ordStep sc ns.sum ns.length w).1 ∧ RowOk (ordStep sc ns.sum ns.length w).2 := by
  have t := takenV_ok (sc := sc) (many := 3) h (by decide)
  have hs0 : 0 ≤ ns.sum := sum_sub_le (List.nil_sublist ns) fun x hx => by have := hb.pos x hx; omega
  have hn := hb.lo
  have t2 := takenV_ok (sc := sc) (many := ns.sum + 3) t.2.2 (by omega)
  have t3 := takenV_ok (sc := sc) (many := (ns.length : Int)) t.2.2 (by omega)
  unfold ordStep
  split
  · refine ⟨⟨by simp, ?_, fun _ => ?_, fun z => absurd rfl z⟩, t2.2.2⟩
    · show 0 ≤ min 10000 _
      omega
    · show min 10000 _ ≤ _
      omega
  · rename_i c
    refine ⟨⟨?_, t3.1, fun z => ?_, fun _ => t3.2.1⟩, t3.2.2⟩
    · show (takenV sc w 3).1.toNat ≤ 2
      omega
    · have z' : (takenV sc w 3).1.toNat = 0 := z
      omega
theorem ordersV_ok {sc : List Int} {ns : List Int} {w : Dw} (hb : IsBox ns) (h : RowOk w) : ∀ i, (ordersV sc ns.sum ns.length w i).1.length = i ∧ (∀ o ∈ (ordersV sc ns.sum ns.length w i).1, OrdOk ns.length o) ∧ RowOk (ordersV sc ns.sum ns.length w i).2
  | 0 => ⟨rfl, (fun o ho => absurd ho (by simp [ordersV])), h⟩
  | i + 1 => by
    obtain ⟨h1, h2, h3⟩ := ordersV_ok hb h i
    obtain ⟨h4, h5⟩ := ordStep_ok (sc := sc) hb h3
    refine ⟨?_, fun o ho => ?_, h5⟩
    · show ((ordersV sc ns.sum ns.length w i).1 ++ [_]).length = i + 1
      rw [List.length_append, h1]
      rfl
    · rcases List.mem_append.mp ho with z | z
      · exact h2 o z
      · rw [List.mem_singleton.mp z]; exact h4
section
variable {P : Program} {w : World} {K : PySem.W.Frag} {tb : Tbs} {mg : Str → Option Value} {base : Heap} {f : Addr} {fd : FuncData}

/-! _law_weighed: 0 _law_box_here, 1 _law_loss, 2 _law_load, 3 _law_found, 4 _law_left_here, 5 _law_weight -/
abbrev s_law_weighed : Stmt := topS 42
theorem sc_law_weighed : FnScope ["_law_box_here", "_law_loss", "_law_load", "_law_found", "_law_left_here", "_law_weight"] ["_law_box_here", "_law_loss", "_law_load"] (defScope s_law_weighed) := ⟨rfl, rfl, rfl, by decide +kernel, rfl, by decide +kernel, by decide +kernel⟩
def preLWeighed (ds : List PyData) (d : PyData) : Prop := ∃ (ns M : List Int) (load : Int), ds = [dT ns, dL M, .int load] ∧ IsBox ns ∧ d = weighD (leftV ns M) load
theorem ok_law_weighed (F : Fun K "_law_weighed" "_law_weighed" s_law_weighed f fd) (hm : mg "_law_weighed" = some (.ref f)) (B : Bt mg) (F_law_left : Fd P w K mg base 2 "_law_left" ["_law_box_here", "_law_loss"] (spV K tb preLLeft)) : Fd P w K mg base 3 "_law_weighed" ["_law_box_here", "_law_loss", "_law_load"] (spV K tb preLWeighed) := by
  refine fd_mk F sc_law_weighed hm (fun _ _ _ _ _ _ us hl => match us, hl with | [_, _, _], _ => rfl) (fun ds d ⟨_, _, _, h, _⟩ => by rw [h]; rfl) fun cdv A outer s H E b ds d hr hp => ?_
  obtain ⟨ns, M, load, rfl, hb, rfl⟩ := hp
  obtain ⟨l1, l2, l3⟩ := left_box (L := M) hb
  have hh := hb.hi
  have hsi := sortI_id l2
  have hLL : preLLeft [dT ns, dL M] (dL (leftV ns M)) := ⟨ns, M, dL M, rfl, .inr rfl, by omega, rfl⟩
  generalize leftV ns M = ls at l1 l2 l3 hsi hLL ⊢
  have hrl : ls.reverse.length ≤ 10 := by rw [List.length_reverse]; exact l1
  have hrev : (ls.map PyData.int).reverse = ls.reverse.map PyData.int := by rw [List.map_reverse]
  unfold weighD weighL
  let st : Nat → List Int × Int := fun i => (ls.reverse.take i).foldl tryW ([], load)
  have eEnd : st ls.reverse.length = ls.reverse.foldl tryW ([], load) := by
    show (ls.reverse.take ls.reverse.length).foldl tryW _ = _
    rw [List.take_length]
  refine B_parNV 3 4 2 (xs := ([] : List Int).map .int) (E_lstD A_nil) (pv 2) rfl rfl sc_law_weighed.nd rfl rfl (by decide) rfl rfl ?_
  refine B_then (Mid := fun S' => ∃ v5, S' = [.val (dT ns), .val (dL M), .val (.int load), .own true ((ls.reverse.foldl tryW ([], load)).1.map .int), .val (.int (ls.reverse.foldl tryW ([], load)).2), v5])
    (B_for (xs := ls.reverse) (enc := PyData.int) (F := fun x S => S.set 5 (.val (.int x))) (fun i S' => ∃ v5, S' = [.val (dT ns), .val (dL M), .val (.int load), .own true ((st i).1.map .int), .val (.int (st i).2), v5]) PassesOwn.never rfl (I_list (E_fz (E_toN (E_revL (E_fz (E_toN (E_sortedS (.inr rfl) B.sorted (E_call F_law_left hr rfl (A_cons (E_name 0 rfl (pv 0)) (A_cons (E_name 1 rfl (pv 1)) A_nil)) hLL) (by omega)) (by rw [hsi])))) hrev))) (pg_name (i := 5) sc_law_weighed.nd rfl (Or.inl rfl)) (fun x hx => g_name) ⟨_, rfl⟩ (fun i x S' hx hI => ?_) (fun S' h => by rw [eEnd] at h; exact h)) (fun S' h => ?_)
  · obtain ⟨v5, rfl⟩ := hI
    have hs : st (i + 1) = tryW (st i) x := by
      show (ls.reverse.take (i + 1)).foldl tryW _ = _
      rw [take_succ' hx, List.foldl_append]
      rfl
    have hlen : (st i).1.length ≤ 10 := by
      have h1 := weigh_len (ls.reverse.take i) ([], load)
      have h2 : (ls.reverse.take i).length ≤ ls.reverse.length := by rw [List.length_take]; omega
      have h3 : (([] : List Int), load).1.length = 0 := rfl
      show ((ls.reverse.take i).foldl tryW ([], load)).1.length ≤ 10
      omega
    generalize st i = si at hs hlen ⊢
    obtain ⟨fo, lo⟩ := si
    replace hlen : fo.length ≤ 10 := hlen
    refine B_if (Mid := fun S' => S' = [.val (dT ns), .val (dL M), .val (.int load), .own true ((st (i + 1)).1.map .int), .val (.int (st (i + 1)).2), .val (.int x)]) (T_le (E_name 5 rfl (pv 5)) (E_name 4 rfl (pv 4))) (fun hc => ?_) (fun hc => ?_) (fun S' h => B_nil ⟨_, h⟩)
    · refine B_app 3 rfl (pv 3) (E_name 5 rfl (pv 5)) rfl (sz_lt (by rw [List.length_map]; show fo.length < _; omega)) ?_
      refine B_set 4 (E_sub (E_name 4 rfl (pv 4)) (E_name 5 rfl (pv 5))) sc_law_weighed.nd rfl (Or.inl rfl) (B_nil ?_)
      rw [hs]
      have h : x ≤ lo := of_decide_eq_true hc
      unfold tryW
      rw [if_pos h, List.map_append]
      rfl
    · refine B_nil ?_
      rw [hs]
      have h : ¬ x ≤ lo := of_decide_eq_false hc
      unfold tryW
      rw [if_neg h]
      rfl
  · obtain ⟨v5, rfl⟩ := h
    generalize ls.reverse.foldl tryW ([], load) = r
    obtain ⟨fo, lo⟩ := r
    refine B_ret (S1 := [.val (dT ns), .val (dL M), .val (.int load), .own true (fo.map .int), .val (.int lo), v5]) (E_if (S1 := [.val (dT ns), .val (dL M), .val (.int load), .own true (fo.map .int), .val (.int lo), v5]) (r := .val (if lo = 0 then dT fo else .none)) (T_eqi (E_name 4 rfl (pv 4)) E_int) (fun hc => ?_) (fun hc => ?_)) rfl
    · have h : lo = 0 := of_decide_eq_true hc
      rw [if_pos h]
      exact E_tupleO 3 B.tuple rfl (pv 3)
    · have h : ¬ lo = 0 := of_decide_eq_false hc
      rw [if_neg h]
      exact E_none

/-! _law_orders: 0 _law_row, 1 _law_box_here, 2 _law_many, 3 _law_found, 4 _law_turn, 5 _law_way -/
abbrev s_law_orders : Stmt := topS 43
theorem sc_law_orders : FnScope ["_law_row", "_law_box_here", "_law_many", "_law_found", "_law_turn", "_law_way"] ["_law_row", "_law_box_here", "_law_many"] (defScope s_law_orders) := ⟨rfl, rfl, rfl, by decide +kernel, rfl, by decide +kernel, by decide +kernel⟩
def preLOrders (xs ds : List PyData) (d : PyData) (xs' : List PyData) : Prop := ∃ (sc : List Int) (w : Dw) (ns : List Int) (m : Nat), xs = rowD sc w ∧ ds = [dT ns, .int (m : Int)] ∧ RowOk w ∧ IsBox ns ∧ m ≤ 60 ∧ d = .tuple ((ordersV sc ns.sum ns.length w m).1.map ordD) ∧ xs' = rowD sc (ordersV sc ns.sum ns.length w m).2
theorem ok_law_orders (F : Fun K "_law_orders" "_law_orders" s_law_orders f fd) (hm : mg "_law_orders" = some (.ref f)) (B : Bt mg) (F_law_taken : Fd P w K mg base 1 "_law_taken" ["_law_row", "_law_many"] (spR K tb preTaken)) : Fd P w K mg base 2 "_law_orders" ["_law_row", "_law_box_here", "_law_many"] (spR K tb preLOrders) := by
  refine fd_mkR F sc_law_orders hm (fun _ _ _ _ _ _ us hl => match us, hl with | [_, _, _], _ => rfl) (fun xs ds d xs' ⟨_, _, _, _, _, h, _⟩ => by rw [h]; rfl) fun cdv A outer s H E b xs ds d xs' hr hp => ?_
  obtain ⟨sc, w0, ns, m, rfl, rfl, ok, hb, hm60, rfl, rfl⟩ := hp
  have hn := hb.lo
  have hh := hb.hi
  obtain ⟨bl1, bl2⟩ := box_long2 hb
  have hs0 : 0 ≤ ns.sum := sum_sub_le (List.nil_sublist ns) fun x hx => by have := hb.pos x hx; omega
  have hs1 : ns.sum ≤ 1000 * ns.length := sum_le_mul fun x hx => (hb.pos x hx).2
  have hO := ordersV_ok (sc := sc) hb ok
  let st : Nat → List OrdT × Dw := ordersV sc ns.sum ns.length w0
  refine B_own 3 (xs := ([] : List OrdT).map ordD) (E_lstD A_nil) sc_law_orders.nd rfl (Or.inl rfl) ?_
  refine B_then (Mid := fun S' => ∃ v4 v5, S' = [.own false (rowD sc (st m).2), .val (dT ns), .val (.int (m : Int)), .own true ((st m).1.map ordD), v4, v5])
    (B_for (xs := List.range m) (enc := fun (m : Nat) => PyData.int (m : Int)) (F := fun m S => S.set 4 (.val (.int (m : Int)))) (fun i S' => ∃ v4 v5, S' = [.own false (rowD sc (st i).2), .val (dT ns), .val (.int (m : Int)), .own true ((st i).1.map ordD), v4, v5]) PassesOwn.never rfl (I_rangeN B.range (E_name 2 rfl (pv 2)) rfl (by omega)) (pg_name (i := 4) sc_law_orders.nd rfl (Or.inl rfl)) (fun x hx => g_name) ⟨_, _, rfl⟩ (fun i x S' hx hI => ?_) (fun S' h => by rw [List.length_range] at h; exact h)) (fun S' h => ?_)
  · obtain ⟨v4, v5, rfl⟩ := hI
    obtain ⟨hi, ex⟩ : i < m ∧ x = i := by
      by_cases c : i < m
      · rw [List.getElem?_range c] at hx; cases hx; exact ⟨c, rfl⟩
      · rw [List.getElem?_eq_none (by simpa using c)] at hx; cases hx
    subst ex
    obtain ⟨o1, o2, o3⟩ := hO x
    have hst : st (x + 1) = ((st x).1 ++ [(ordStep sc ns.sum ns.length (st x).2).1], (ordStep sc ns.sum ns.length (st x).2).2) := rfl
    replace o1 : (st x).1.length = x := o1
    replace o3 : RowOk (st x).2 := o3
    generalize st x = sx at hst o1 o3 ⊢
    obtain ⟨os, wx⟩ := sx
    replace o1 : os.length = x := o1
    replace o3 : RowOk wx := o3
    have t := takenV_ok (sc := sc) (many := 3) o3 (by decide)
    have hsz : (os.map ordD).length < sizeLine := sz_lt (by rw [List.length_map]; omega)
    refine B_set 5 (E_callR 0 F_law_taken hr rfl (pv 0) (A_cons E_int A_nil) rfl ⟨_, rfl⟩ ⟨sc, wx, 3, rfl, rfl, o3, by decide, by decide, rfl, rfl⟩) sc_law_orders.nd rfl (Or.inl rfl) ?_
    by_cases hc : (takenV sc wx 3).1 = 0
    · have eo : ordStep sc ns.sum ns.length wx = ((0, min 10000 (takenV sc (takenV sc wx 3).2 (ns.sum + 3)).1), (takenV sc (takenV sc wx 3).2 (ns.sum + 3)).2) := by unfold ordStep; rw [if_pos hc]
      replace hst : st (x + 1) = (os ++ [(ordStep sc ns.sum ns.length wx).1], (ordStep sc ns.sum ns.length wx).2) := hst
      rw [eo] at hst
      refine B_app 3 rfl (pv 3) (E_if (c := true) (r := .val (ordD (0, min 10000 (takenV sc (takenV sc wx 3).2 (ns.sum + 3)).1))) (T_to (T_eqi (E_name 5 rfl (pv 5)) E_int) (decide_eq_true hc)) (fun _ => E_tupD (A_cons E_str (A_cons (E_min2 rfl B.min E_int (E_callR 0 F_law_taken hr rfl (pv 0) (A_cons (E_add (E_sumT rfl B.sum (E_name 1 rfl (pv 1)) bl1 bl2) E_int) A_nil) rfl ⟨_, rfl⟩ ⟨sc, _, ns.sum + 3, rfl, rfl, t.2.2, by omega, by omega, rfl, rfl⟩)) A_nil))) (fun hc => by cases hc)) rfl hsz (B_nil ⟨.val (.int (x : Int)), .val (.int (takenV sc wx 3).1), ?_⟩)
      rw [hst, List.map_append]
      rfl
    · have eo : ordStep sc ns.sum ns.length wx = (((takenV sc wx 3).1.toNat, (takenV sc (takenV sc wx 3).2 ns.length).1), (takenV sc (takenV sc wx 3).2 ns.length).2) := by unfold ordStep; rw [if_neg hc]
      replace hst : st (x + 1) = (os ++ [(ordStep sc ns.sum ns.length wx).1], (ordStep sc ns.sum ns.length wx).2) := hst
      rw [eo] at hst
      have hix : atI [PyData.str ("lose" : Str), PyData.str ("find" : Str)] ((takenV sc wx 3).1 - 1) = some (.str (wordS (takenV sc wx 3).1.toNat)) := by
        rcases (by omega : (takenV sc wx 3).1 = 1 ∨ (takenV sc wx 3).1 = 2) with h | h <;> rw [h] <;> rfl
      refine B_app 3 rfl (pv 3) (E_if (c := false) (r := .val (ordD ((takenV sc wx 3).1.toNat, (takenV sc (takenV sc wx 3).2 ns.length).1))) (T_to (T_eqi (E_name 5 rfl (pv 5)) E_int) (decide_eq_false hc)) (fun hc => by cases hc) (fun _ => E_tupD (A_cons (E_ixL (xs := [.str "lose", .str "find"]) (E_fz (E_lstD (A_cons E_str (A_cons E_str A_nil)))) (E_sub (E_name 5 rfl (pv 5)) E_int) hix) (A_cons (E_callR 0 F_law_taken hr rfl (pv 0) (A_cons (E_lenT B.len (E_name 1 rfl (pv 1))) A_nil) rfl ⟨_, rfl⟩ ⟨sc, _, (ns.length : Int), rfl, rfl, t.2.2, by omega, by omega, rfl, rfl⟩) A_nil)))) rfl hsz (B_nil ⟨.val (.int (x : Int)), .val (.int (takenV sc wx 3).1), ?_⟩)
      rw [hst, List.map_append]
      rfl
  · obtain ⟨v4, v5, rfl⟩ := h
    exact B_ret (E_tupleO 3 B.tuple rfl (pv 3)) ⟨rfl, rfl⟩
end
end Q

set_option Elab.async false
set_option linter.all false
set_option maxRecDepth 100000
set_option maxHeartbeats 20000000
set_option autoImplicit false
/-! the law k61 -/
namespace Q
open PySem PySem.Spec PyProof.Rows L2 D
def dueV (ns : List Int) (os : List OrdT) (i : Nat) : Str := Str.join Str.empty (textsV ns os i)
theorem str_assoc (a b c : Str) : a ++ b ++ c = a ++ (b ++ c) := TL.ext_tl (by simp only [TL.tl_append, List.append_assoc])
theorem empty_app (a : Str) : Str.empty ++ a = a := TL.ext_tl (by rw [TL.tl_append]; rfl)
theorem app_empty (a : Str) : a ++ Str.empty = a := TL.ext_tl (by rw [TL.tl_append]; exact List.append_nil _)
theorem join_snoc : ∀ (ys : List Str) (y : Str), Str.join Str.empty (ys ++ [y]) = Str.join Str.empty ys ++ y
  | [], y => (empty_app y).symm
  | [x], y => by
    show x ++ Str.empty ++ y = x ++ y
    rw [app_empty]
  | x :: z :: r, y => by
    have h := join_snoc (z :: r) y
    show x ++ Str.empty ++ Str.join Str.empty ((z :: r) ++ [y]) = x ++ Str.empty ++ Str.join Str.empty (z :: r) ++ y
    rw [h, str_assoc (x ++ Str.empty)]
theorem due_succ {ns : List Int} {os : List OrdT} {i : Nat} {o : OrdT} (h : os[i]? = some o) : dueV ns os (i + 1) = dueV ns os i ++ wordS o.1 ++ (" " : Str) ++ numS o.2 ++ (": " : Str) ++ toldV ns (lostAt os i) o ++ ("\n" : Str) := by
  unfold dueV textsV
  rw [List.range_succ, List.map_append, List.map_singleton, join_snoc, getD_of h]
  unfold lineT
  show _ ++ ((wordS o.1 ++ (" " : Str) ++ numS o.2) ++ (": " : Str) ++ toldV ns (lostAt os i) o ++ ("\n" : Str)) = _
  simp only [str_assoc]
theorem due_len {ns : List Int} {os : List OrdT} (hb : IsBox ns) (ho : ∀ o ∈ os, OrdOk ns.length o) {i : Nat} (hi : i ≤ os.length) : (dueV ns os i).length ≤ i * 103 := by
  have h := join_le (y := Str.empty) (parts := textsV ns os i) (k := 103) (n := i) (texts_len hb ho hi) (by unfold textsV; rw [List.length_map, List.length_range]; exact Nat.le_refl _)
  have e : Str.empty.length = 0 := rfl
  rw [e, Nat.add_zero] at h
  exact h
section
variable {P : Program} {w : World} {K : PySem.W.Frag} {tb : Tbs} {mg : Str → Option Value} {base : Heap} {f : Addr} {fd : FuncData}

/-! law: 0 _law_script, 1 _law_row, 2 _law_box_here, 3 _law_orders_here, 4 _law_lost, 5 _law_due, 6 _law_word, 7 _law_number*, 8 _law_found, 9 _law_told, 10 _law_weight, 11 _law_place -/
abbrev s_law : Stmt := topS 44
abbrev nLaw : List Str := ["_law_script", "_law_row", "_law_box_here", "_law_orders_here", "_law_lost", "_law_due", "_law_word", "_law_number", "_law_found", "_law_told", "_law_weight", "_law_place"]
theorem sc_law : FnScope nLaw ["_law_script"] (defScope s_law) := ⟨rfl, rfl, rfl, by decide +kernel, rfl, by decide +kernel, by decide +kernel⟩
def preLaw (ds : List PyData) (d : PyData) : Prop := ∃ sc : List Int, ds = [scrD sc] ∧ d = .bool true
theorem ok_law (F : Fun K "law" "law" s_law f fd) (B : Bt mg) (F_law_box : Fd P w K mg base 2 "_law_box" ["_law_row", "_law_most", "_law_top"] (spR K tb preLBox)) (F_law_left : Fd P w K mg base 2 "_law_left" ["_law_box_here", "_law_loss"] (spV K tb preLLeft)) (F_law_orders : Fd P w K mg base 2 "_law_orders" ["_law_row", "_law_box_here", "_law_many"] (spR K tb preLOrders)) (F_law_pick : Fd P w K mg base 2 "_law_pick" ["_law_row", "_law_things"] (spR K tb preLPick)) (F_law_reach : Fd P w K mg base 1 "_law_reach" ["_law_weights"] (spV K tb preLReach)) (F_law_taken : Fd P w K mg base 1 "_law_taken" ["_law_row", "_law_many"] (spR K tb preTaken)) (F_law_weighed : Fd P w K mg base 3 "_law_weighed" ["_law_box_here", "_law_loss", "_law_load"] (spV K tb preLWeighed)) (F_tale : Fd P w K mg base 8 "tale" ["box", "orders"] (spV K tb preTale)) : FnOk P w K mg base CX0 9 f fd ["_law_script"] (spV K tb preLaw) := by
  refine fn_mk F sc_law (fun _ _ _ _ _ _ us hl => match us, hl with | [_], _ => rfl) (fun ds d ⟨_, h, _⟩ => by rw [h]; rfl) fun cdv A outer s H E b ds d hr hp => ?_
  obtain ⟨sc, rfl, rfl⟩ := hp
  have ok0 : RowOk ⟨0, 9061, 0⟩ := ⟨by decide, by decide, by decide⟩
  refine B_own 1 (xs := rowD sc ⟨0, 9061, 0⟩) (E_lstD (A_cons (E_name 0 rfl (pv 0)) (A_cons E_int (A_cons E_int (A_cons E_int A_nil))))) sc_law.nd rfl (Or.inl rfl) ?_
  have t0 := takenV_ok (sc := sc) (many := 3) ok0 (by decide)
  obtain ⟨⟨a0, w0⟩, hq0⟩ : ∃ q, takenV sc ⟨0, 9061, 0⟩ 3 = q := ⟨_, rfl⟩
  rw [hq0] at t0
  replace t0 : 0 ≤ a0 ∧ a0 < 3 ∧ RowOk w0 := t0
  obtain ⟨a00, a01, okw0⟩ := t0
  obtain ⟨top, htop, tp0, tp1⟩ : ∃ top : Int, ([6, 9, 300].map PyData.int)[a0.toNat]? = some (.int top) ∧ 0 < top ∧ top ≤ 300 := by
    rcases (by omega : a0 = 0 ∨ a0 = 1 ∨ a0 = 2) with rfl | rfl | rfl
    · exact ⟨6, rfl, by decide, by decide⟩
    · exact ⟨9, rfl, by decide, by decide⟩
    · exact ⟨300, rfl, by decide, by decide⟩
  have hpick : preLPick (rowD sc ⟨0, 9061, 0⟩) [.list [.int 6, .int 9, .int 300]] (.int top) (rowD sc w0) := ⟨sc, ⟨0, 9061, 0⟩, [.int 6, .int 9, .int 300], rfl, rfl, ok0, by simp, by simp, by
    show ([6, 9, 300].map PyData.int)[(takenV sc ⟨0, 9061, 0⟩ 3).1.toNat]? = _
    rw [hq0]; exact htop, by
    show _ = rowD sc (takenV sc ⟨0, 9061, 0⟩ 3).2
    rw [hq0]⟩
  obtain ⟨n1, n2, n3, n4, ok1⟩ := boxV_ok (sc := sc) (w := w0) (most := 10) (top := top) okw0 (by decide) tp0
  obtain ⟨⟨ns, w1⟩, hbx⟩ : ∃ q, boxV sc w0 10 top = q := ⟨_, rfl⟩
  rw [hbx] at n1 n2 n3 n4 ok1
  replace n1 : 1 ≤ ns.length := n1
  replace n2 : (ns.length : Int) ≤ 10 := n2
  replace n3 : ∀ x ∈ ns, 1 ≤ x ∧ x ≤ top := n3
  replace n4 : ns.Pairwise (· ≤ ·) := n4
  replace ok1 : RowOk w1 := ok1
  have h0 : ∀ x ∈ ns, 0 ≤ x := fun x hx => by have := n3 x hx; omega
  have hbox : IsBox ns := isBox_of n1 (by omega) (fun x hx => by have := n3 x hx; omega) n4
  refine B_set 2 (d := dT ns) (E_callR 1 (xs' := rowD sc w1) F_law_box (hr.mono (by decide)) rfl (pv 1) (A_cons E_int (A_cons (E_callR 1 (d := .int top) (xs' := rowD sc w0) F_law_pick (hr.mono (by decide)) rfl (pv 1) (A_cons (E_fz (E_lstD (A_cons E_int (A_cons E_int (A_cons E_int A_nil))))) A_nil) rfl ⟨_, rfl⟩ hpick) A_nil)) rfl ⟨_, rfl⟩ ⟨sc, w0, 10, top, rfl, rfl, okw0, by decide, by decide, tp0, by omega, by rw [hbx], by rw [hbx]⟩) sc_law.nd rfl (Or.inl rfl) ?_
  have t2 := takenV_ok (sc := sc) (w := w1) (many := 14) ok1 (by decide)
  obtain ⟨⟨m', w2⟩, hq2⟩ : ∃ q, takenV sc w1 14 = q := ⟨_, rfl⟩
  rw [hq2] at t2
  replace t2 : 0 ≤ m' ∧ m' < 14 ∧ RowOk w2 := t2
  obtain ⟨m0, m1, ok2⟩ := t2
  obtain ⟨m, hm'⟩ : ∃ m : Nat, m' = (m : Int) := ⟨m'.toNat, by omega⟩
  subst hm'
  obtain ⟨o1, o2, ok3⟩ := ordersV_ok (sc := sc) hbox ok2 m
  obtain ⟨⟨os, w3⟩, hos⟩ : ∃ q, ordersV sc ns.sum ns.length w2 m = q := ⟨_, rfl⟩
  rw [hos] at o1 o2 ok3
  replace o1 : os.length = m := o1
  replace o2 : ∀ o ∈ os, OrdOk ns.length o := o2
  replace ok3 : RowOk w3 := ok3
  refine B_par3 3 4 5 (da := .tuple (os.map ordD)) (db := dL []) (dc := .str (dueV ns os 0)) (E_callR 1 (xs' := rowD sc w3) F_law_orders (hr.mono (by decide)) rfl (pv 1) (A_cons (E_name 2 rfl (pv 2)) (A_cons (E_callR 1 (d := .int (m : Int)) (xs' := rowD sc w2) F_law_taken (hr.mono (by decide)) rfl (pv 1) (A_cons E_int A_nil) rfl ⟨_, rfl⟩ ⟨sc, w1, 14, rfl, rfl, ok1, by decide, by decide, by rw [hq2], by rw [hq2]⟩) A_nil)) rfl ⟨_, rfl⟩ ⟨sc, w2, ns, m, rfl, rfl, ok2, hbox, by omega, by rw [hos], by rw [hos]⟩) (E_fz (E_lstD A_nil)) (E_to E_str rfl) rfl sc_law.nd rfl rfl rfl (by decide) (by decide) (by decide) rfl rfl rfl ?_
  refine B_norm [.val (scrD sc), .own true (rowD sc w3), .val (dT ns), .val (.tuple (os.map ordD)), .val (dL (lostM os 0)), .val (.str (dueV ns os 0)), .emp, .emp, .emp, .emp, .emp, .emp] rfl ?_
  refine B_then (Mid := fun S' => ∃ v6 v7 v8 v9, S' = [.val (scrD sc), .own true (rowD sc w3), .val (dT ns), .val (.tuple (os.map ordD)), .val (dL (lostM os os.length)), .val (.str (dueV ns os os.length)), v6, v7, v8, v9, .emp, .emp])
    (B_for (xs := os) (enc := ordD) (F := fun o S => (S.set 6 (.val (.str (wordS o.1)))).set 7 (.val (.int o.2))) (fun i S' => ∃ v6 v7 v8 v9, S' = [.val (scrD sc), .own true (rowD sc w3), .val (dT ns), .val (.tuple (os.map ordD)), .val (dL (lostM os i)), .val (.str (dueV ns os i)), v6, v7, v8, v9, .emp, .emp]) PassesOwn.never rfl (I_tup (E_name 3 rfl (pv 3))) (pg_tup rfl (pgs_cons (pg_name (i := 6) sc_law.nd rfl (Or.inl rfl)) (pgs_cons (pg_name (i := 7) sc_law.nd rfl (Or.inr rfl)) pgs_nil))) (fun x hx => (g_tup (g_cons g_name (g_cons g_name g_nil)))) ⟨_, _, _, _, rfl⟩ (fun i o S' hx hI => ?_) (fun S' h => h)) (fun S' h => ?_)
  · obtain ⟨v6, v7, v8, v9, rfl⟩ := hI
    have hmo : o ∈ os := List.mem_of_getElem? hx
    have hok := o2 o hmo
    have hi : i < os.length := (List.getElem?_eq_some_iff.mp hx).1
    have hperm := lost_perm os i
    have hmem : ∀ x, x ∈ lostM os i ↔ x ∈ lostAt os i := fun x => hperm.mem_iff.symm
    have hleft : leftV ns (lostM os i) = leftV ns (lostAt os i) := leftV_congr hmem
    have hmlen : (lostM os i).length ≤ 10 := by
      rw [← hperm.length_eq]
      have := loss_few (lost_ok o2 i)
      omega
    have hS := lostM_succ hx
    have hD := due_succ (ns := ns) hx
    have hperm2 := lost_perm os (i + 1)
    have hleft2 : leftV ns (lostM os (i + 1)) = leftV ns (nextV (lostAt os i) o) := by
      rw [← lost_succ hx]
      exact leftV_congr fun x => hperm2.mem_iff.symm
    have hdl := due_len hbox o2 (Nat.le_of_lt hi)
    have htl := told_len (L := lostAt os i) (o := o) hbox
    have hwl := word_len o.1
    have hlo := hok.lo
    have hhi : o.2 ≤ 10000 := by
      by_cases c : o.1 = 0
      · exact hok.w c
      · have := hok.p c; omega
    have hnl := numS_len (n := o.2) (k := 5) (by decide) hlo (by omega)
    have e1 : (" " : Str).length = 1 := by decide
    have e2 : (": " : Str).length = 2 := by decide
    have e3 : ("\n" : Str).length = 1 := by decide
    refine B_if (Mid := fun S' => ∃ v8, S' = [.val (scrD sc), .own true (rowD sc w3), .val (dT ns), .val (.tuple (os.map ordD)), .val (dL (lostM os (i + 1))), .val (.str (dueV ns os i)), .val (.str (wordS o.1)), .val (.int o.2), v8, .val (.str (toldV ns (lostAt os i) o)), .emp, .emp]) (T_eqS (x := wordS o.1) (E_name 6 rfl (pv 6)) E_str) (fun hc => ?_) (fun hc => ?_) (fun S' h => ?_)
    · -- weigh
      have ho0 : o.1 = 0 := by
        have hc' := of_decide_eq_true hc
        obtain ⟨k, x⟩ := o
        match k, hc' with
        | 0, _ => rfl
        | 1, h => exact absurd (show ("lose" : Str) = "weigh" from h) (by decide)
        | k + 2, h => exact absurd (show ("find" : Str) = "weigh" from h) (by decide)
      have eM : lostM os (i + 1) = lostM os i := by rw [hS]; unfold nextM; rw [if_pos ho0]
      have eT : toldV ns (lostAt os i) o = weighS (leftV ns (lostAt os i)) o.2 := by unfold toldV; rw [if_pos ho0]
      rw [eM, eT]
      refine B_set 8 (d := weighD (leftV ns (lostAt os i)) o.2) (E_call F_law_weighed (hr.mono (by decide)) rfl (A_cons (E_name 2 rfl (pv 2)) (A_cons (E_name 4 rfl (pv 4)) (A_cons (E_name 7 rfl (pv 7)) A_nil))) ⟨ns, lostM os i, o.2, rfl, hbox, by rw [hleft]⟩) sc_law.nd rfl (Or.inl rfl) ?_
      rcases weighD_cases (leftV ns (lostAt os i)) o.2 with hw | ⟨t, ht⟩
      · rw [weighS_none hw, hw]
        exact B_set 9 (d := .str "not weighed") (E_if (c := true) (T_isN (da := .none) (E_name 8 rfl (pv 8))) (fun _ => E_str) (fun hc => by cases hc)) sc_law.nd rfl (Or.inl rfl) (B_nil ⟨_, rfl⟩)
      · rw [weighS_some ht, ht]
        obtain ⟨u1, u2, _⟩ := taken_box hbox ht
        cases t with
        | nil =>
          exact B_set 9 (d := .str "nothing") (E_if (c := false) (T_isN (da := dT []) (E_name 8 rfl (pv 8))) (fun hc => by cases hc) (fun _ => E_if (c := false) (T_to (T_ne (da := dT []) (db := dT []) (hu64 hr) (E_name 8 rfl (pv 8)) E_tup0 rfl rfl) rfl) (fun hc => by cases hc) (fun _ => E_str))) sc_law.nd rfl (Or.inl rfl) (B_nil ⟨_, rfl⟩)
        | cons y ys =>
          have e : wtxt (y :: ys) = Str.join (" + " : Str) ((y :: ys).map numS) := if_neg (by simp)
          rw [e]
          have h3 := sum_le_of (ys := (y :: ys).map numS) (k := 4) (fun p hp => by
            obtain ⟨x, hx', rfl⟩ := List.mem_map.mp hp
            have := u2 x hx'
            exact numS_len (by decide) this.1 (by omega))
          have e4 : (" + " : Str).length = 3 := by decide
          have hz : (((y :: ys).map numS).map (·.length)).sum + ((y :: ys).map numS).length * (" + " : Str).length ≤ 100000 := by
            rw [e4]
            rw [List.length_map] at h3 ⊢
            omega
          exact B_set 9 (d := .str (Str.join (" + " : Str) ((y :: ys).map numS))) (E_if (c := false) (T_isN (da := dT (y :: ys)) (E_name 8 rfl (pv 8))) (fun hc => by cases hc) (fun _ => E_if (c := true) (T_to (T_ne (da := dT (y :: ys)) (db := dT []) (hu64 hr) (E_name 8 rfl (pv 8)) E_tup0 (shaped_dT _) rfl) (by rfl)) (fun _ => E_join E_str (E_fz (E_toN (E_lc (own := [("_law_weight", 10)]) (xs := y :: ys) (enc := PyData.int) (F := fun d S => S.set 10 (.val (.int d))) (fun _ => true) numS PyData.str rfl sc_law.nd (I_tup (E_name 8 rfl (pv 8))) (blkOk_by (N := nLaw) (sc := defScope s_law) (by decide +kernel)) (fun _ _ _ _ _ => (pg_name (i := 10) sc_law.nd rfl (Or.inl rfl))) (fun _ x hx => g_name) (by decide) (fun b x hx s H C cl fp => PTs_nil) (fun b x hx' hp s H C cl fp => (E_strI B.str (E_name 10 rfl (pv 10)) (by have := u2 x hx'; omega))) (fun _ _ => rfl) (sz_lt (by omega)) rfl) (by rw [List.filter_eq_self.mpr (fun _ _ => rfl)]))) hz) (fun hc => by cases hc))) sc_law.nd rfl (Or.inl rfl) (B_nil ⟨_, rfl⟩)
    · -- lose, find
      have ho0 : ¬ o.1 = 0 := fun z => by
        have hc' := of_decide_eq_false hc
        rw [z] at hc'
        exact hc' rfl
      have hk2 := hok.k
      have ew : decide (wordS o.1 = ("lose" : Str)) = decide (o.1 = 1) := by
        rcases (by omega : o.1 = 1 ∨ o.1 = 2) with h | h <;> rw [h] <;> decide
      have emm : decide (o.2 ∈ lostM os i) = decide (o.2 ∈ lostAt os i) := decide_eq_decide.mpr (hmem o.2)
      by_cases hd : decide (o.1 = 1) = decide (o.2 ∈ lostAt os i)
      · have eM : lostM os (i + 1) = lostM os i := by rw [hS]; unfold nextM; rw [if_neg ho0, if_pos (by rw [emm]; exact hd)]
        have eT : toldV ns (lostAt os i) o = ("not done" : Str) := by unfold toldV; rw [if_neg ho0, if_pos hd]
        rw [eM, eT]
        exact B_if (Mid := fun S' => ∃ v8, S' = [.val (scrD sc), .own true (rowD sc w3), .val (dT ns), .val (.tuple (os.map ordD)), .val (dL (lostM os i)), .val (.str (dueV ns os i)), .val (.str (wordS o.1)), .val (.int o.2), v8, .val (.str ("not done" : Str)), .emp, .emp]) (c := true) (T_to (T_eqB (E_eqS (x := wordS o.1) (E_name 6 rfl (pv 6)) E_str) (E_inL (E_name 7 rfl (pv 7)) (E_name 4 rfl (pv 4)) rfl)) (by rw [ew, emm, hd]; exact decide_eq_true rfl)) (fun _ => B_set 9 (d := .str "not done") E_str sc_law.nd rfl (Or.inl rfl) (B_nil ⟨_, rfl⟩)) (fun hc => by cases hc) (fun S' h => B_nil h)
      · have eT : toldV ns (lostAt os i) o = ("reach " : Str) ++ numS (reachV (leftV ns (nextV (lostAt os i) o))) := by unfold toldV; rw [if_neg ho0, if_neg hd]
        obtain ⟨r1, r2⟩ := reach_le (L := nextV (lostAt os i) o) hbox
        have r3 := numS_len (n := reachV (leftV ns (nextV (lostAt os i) o))) (k := 5) (by decide) r1 (by omega)
        have e6 : ("reach " : Str).length = 6 := by decide
        rw [eT]
        obtain ⟨l1, l2, l3⟩ := left_box (L := nextV (lostAt os i) o) hbox
        refine B_if (Mid := fun S' => ∃ v8, S' = [.val (scrD sc), .own true (rowD sc w3), .val (dT ns), .val (.tuple (os.map ordD)), .val (dL (lostM os (i + 1))), .val (.str (dueV ns os i)), .val (.str (wordS o.1)), .val (.int o.2), v8, .val (.str (("reach " : Str) ++ numS (reachV (leftV ns (nextV (lostAt os i) o))))), .emp, .emp]) (c := false) (T_to (T_eqB (E_eqS (x := wordS o.1) (E_name 6 rfl (pv 6)) E_str) (E_inL (E_name 7 rfl (pv 7)) (E_name 4 rfl (pv 4)) rfl)) (by rw [ew, emm]; exact decide_eq_false hd)) (fun hc => by cases hc) (fun _ => ?_) (fun S' h => B_nil h)
        refine B_set 4 (d := dL (lostM os (i + 1))) (E_if (S2 := [.val (scrD sc), .own true (rowD sc w3), .val (dT ns), .val (.tuple (os.map ordD)), .val (dL (lostM os i)), .val (.str (dueV ns os i)), .val (.str (wordS o.1)), .val (.int o.2), v8, v9, .emp, .emp]) (c := decide (o.1 = 1)) (r := .val (dL (lostM os (i + 1)))) (T_to (T_eqS (x := wordS o.1) (E_name 6 rfl (pv 6)) E_str) ew) (fun hc2 => ?_) (fun hc2 => ?_)) sc_law.nd rfl (Or.inl rfl) ?_
        · have h1 := of_decide_eq_true hc2
          have eM : lostM os (i + 1) = lostM os i ++ [o.2] := by rw [hS]; unfold nextM; rw [if_neg ho0, if_neg (by rw [emm]; exact hd), if_pos h1]
          rw [eM]
          exact E_fz (E_toN (E_cat (E_name 4 rfl (pv 4)) (E_fz (E_lstD (A_cons (E_name 7 rfl (pv 7)) A_nil))) (sz_le (by simp; omega))) (by rw [List.map_append]; rfl))
        · have h1 := of_decide_eq_false hc2
          have eM : lostM os (i + 1) = (lostM os i).filter fun x => !decide (x = o.2) := by rw [hS]; unfold nextM; rw [if_neg ho0, if_neg (by rw [emm]; exact hd), if_neg h1]
          rw [eM]
          exact E_fz (E_toN (E_lc (own := [("_law_place", 11)]) (xs := lostM os i) (enc := PyData.int) (F := fun d S => S.set 11 (.val (.int d))) (fun x => !decide (x = o.2)) (fun x => x) PyData.int rfl sc_law.nd (I_list (E_name 4 rfl (pv 4))) (blkOk_by (N := nLaw) (sc := defScope s_law) (by decide +kernel)) (fun _ _ _ _ _ => (pg_name (i := 11) sc_law.nd rfl (Or.inl rfl))) (fun _ x hx => g_name) (by decide) (fun b x hx s H C cl fp => (pts_one (T_nei (E_name 11 rfl (pv 11)) (E_name 7 rfl (pv 7))))) (fun b x hx' hp s H C cl fp => (E_to (E_name 11 rfl (pv 11)) rfl)) (fun _ _ => rfl) (sz_lt (by omega)) rfl) (by rw [List.map_id']))
        · exact B_set 9 (E_addS (x := ("reach " : Str)) (y := numS (reachV (leftV ns (nextV (lostAt os i) o)))) E_str (E_strI B.str (E_call F_law_reach (hr.mono (by decide)) rfl (A_cons (E_call F_law_left (hr.mono (by decide)) rfl (A_cons (E_name 2 rfl (pv 2)) (A_cons (E_name 4 rfl (pv 4)) A_nil)) ⟨ns, lostM os (i + 1), dL (lostM os (i + 1)), rfl, .inr rfl, by omega, by rw [hleft2]⟩) A_nil) ⟨leftV ns (nextV (lostAt os i) o), _, rfl, .inr rfl, by omega, l2, fun x hx => by have := l3 x hx; omega, rfl⟩) (by omega)) (by omega)) sc_law.nd rfl (Or.inl rfl) (B_nil ⟨_, rfl⟩)
    · obtain ⟨v8, rfl⟩ := h
      refine B_set 5 (d := .str (dueV ns os (i + 1))) (E_to (E_addS (E_addS (E_addS (E_addS (E_addS (E_addS (E_name 5 rfl (pv 5)) (E_name 6 rfl (pv 6)) ?_) E_str ?_) (E_strI B.str (E_name 7 rfl (pv 7)) (by omega)) ?_) E_str ?_) (E_name 9 rfl (pv 9)) ?_) E_str ?_) (congrArg PyData.str hD.symm)) sc_law.nd rfl (Or.inl rfl) (B_nil ⟨_, _, _, _, rfl⟩)
      all_goals (first | omega | (simp only [Str.length_append]; omega))
  · obtain ⟨v6, v7, v8, v9, rfl⟩ := h
    have te : taleV ns os = dueV ns os os.length := rfl
    refine B_ret (E_to (E_and (c1 := true) (c2 := true) (E_to (E_eqS (x := taleV ns os) (y := dueV ns os os.length) (E_call F_tale (hr.mono (by decide)) rfl (A_cons (E_name 2 rfl (pv 2)) (A_cons (E_name 3 rfl (pv 3)) A_nil)) ⟨ns, os, rfl, hbox, by omega, o2, rfl⟩) (E_name 5 rfl (pv 5))) (congrArg PyData.bool (decide_eq_true te))) (fun _ => E_and (c1 := true) (c2 := true) (E_to (E_eqS (x := Str.empty) (y := ("" : Str)) (E_call F_tale (hr.mono (by decide)) rfl (A_cons (E_name 2 rfl (pv 2)) (A_cons E_tup0 A_nil)) ⟨ns, [], rfl, hbox, by simp, fun o h => (by cases h), rfl⟩) E_str) (congrArg PyData.bool (decide_eq_true rfl))) (fun _ => E_one (E_to (E_isi B.isinstance B.str (E_name 5 rfl (pv 5)) bb_str rfl) rfl)))) rfl) rfl
end
end Q

namespace Q
open PySem PySem.Spec PyProof.Rows L2 D
/-! what the top wrote -/
theorem all_mk {l : PySem.W.OpenLaw} {w : World} {K : PySem.W.Frag} {h : Heap} {mg : Str → Option Value} {fa : Addr} (X : K.In h) (G : h.Ns mainGlobals mg) (hfa : mg "law" = some (.ref fa))
    {cBadBox cBadNumber cBadStep cBench : Addr}
    (g_BadNumber : PySem.W.nsIn K mainGlobals "BadNumber" = some (some (.ref cBadNumber)))
    (g_BadBox : PySem.W.nsIn K mainGlobals "BadBox" = some (some (.ref cBadBox)))
    (g_BadStep : PySem.W.nsIn K mainGlobals "BadStep" = some (some (.ref cBadStep)))
    (g_Bench : PySem.W.nsIn K mainGlobals "Bench" = some (some (.ref cBench)))
    {f0 : Addr} {od0 an0 : Option Addr} {sl0 : Array (Option Value)} {oc0 kV0 dc0 pm0 cd0 ct0 : Value} (a0 : PySem.W.nsIn K mainGlobals "is_number" = some (some (.ref f0)))
    (l0 : K.lookup f0 = some ⟨oc0, od0, .func (PySem.W.fnOf "is_number" "is_number" (defArgs s_is_number) (defBody s_is_number) (defScope s_is_number) .none kV0 dc0 pm0 an0 cd0 ct0), sl0⟩)
    (c0 : PySem.W.codeIn K cd0 "is_number" = true)
    (k0 : PySem.W.keepIn K (.ref f0) = true)
    {f1 : Addr} {od1 an1 : Option Addr} {sl1 : Array (Option Value)} {oc1 kV1 dc1 pm1 cd1 ct1 : Value} (a1 : PySem.W.nsIn K mainGlobals "need_number" = some (some (.ref f1)))
    (l1 : K.lookup f1 = some ⟨oc1, od1, .func (PySem.W.fnOf "need_number" "need_number" (defArgs s_need_number) (defBody s_need_number) (defScope s_need_number) .none kV1 dc1 pm1 an1 cd1 ct1), sl1⟩)
    (c1 : PySem.W.codeIn K cd1 "need_number" = true)
    (k1 : PySem.W.keepIn K (.ref f1) = true)
    {f2 : Addr} {od2 an2 : Option Addr} {sl2 : Array (Option Value)} {oc2 kV2 dc2 pm2 cd2 ct2 : Value} (a2 : PySem.W.nsIn K mainGlobals "light_sums" = some (some (.ref f2)))
    (l2 : K.lookup f2 = some ⟨oc2, od2, .func (PySem.W.fnOf "light_sums" "light_sums" (defArgs s_light_sums) (defBody s_light_sums) (defScope s_light_sums) .none kV2 dc2 pm2 an2 cd2 ct2), sl2⟩)
    (c2 : PySem.W.codeIn K cd2 "light_sums" = true)
    (k2 : PySem.W.keepIn K (.ref f2) = true)
    {f3 : Addr} {od3 an3 : Option Addr} {sl3 : Array (Option Value)} {oc3 kV3 dc3 pm3 cd3 ct3 : Value} (a3 : PySem.W.nsIn K mainGlobals "need_box" = some (some (.ref f3)))
    (l3 : K.lookup f3 = some ⟨oc3, od3, .func (PySem.W.fnOf "need_box" "need_box" (defArgs s_need_box) (defBody s_need_box) (defScope s_need_box) .none kV3 dc3 pm3 an3 cd3 ct3), sl3⟩)
    (c3 : PySem.W.codeIn K cd3 "need_box" = true)
    (k3 : PySem.W.keepIn K (.ref f3) = true)
    {f4 : Addr} {od4 an4 : Option Addr} {sl4 : Array (Option Value)} {oc4 kV4 dc4 pm4 cd4 ct4 : Value} (a4 : PySem.W.nsIn K mainGlobals "gap_of" = some (some (.ref f4)))
    (l4 : K.lookup f4 = some ⟨oc4, od4, .func (PySem.W.fnOf "gap_of" "gap_of" (defArgs s_gap_of) (defBody s_gap_of) (defScope s_gap_of) .none kV4 dc4 pm4 an4 cd4 ct4), sl4⟩)
    (c4 : PySem.W.codeIn K cd4 "gap_of" = true)
    (k4 : PySem.W.keepIn K (.ref f4) = true)
    {f5 : Addr} {od5 an5 : Option Addr} {sl5 : Array (Option Value)} {oc5 kV5 dc5 pm5 cd5 ct5 : Value} (a5 : PySem.W.nsIn K mainGlobals "safe_of" = some (some (.ref f5)))
    (l5 : K.lookup f5 = some ⟨oc5, od5, .func (PySem.W.fnOf "safe_of" "safe_of" (defArgs s_safe_of) (defBody s_safe_of) (defScope s_safe_of) .none kV5 dc5 pm5 an5 cd5 ct5), sl5⟩)
    (c5 : PySem.W.codeIn K cd5 "safe_of" = true)
    (k5 : PySem.W.keepIn K (.ref f5) = true)
    {f6 : Addr} {od6 an6 : Option Addr} {sl6 : Array (Option Value)} {oc6 kV6 dc6 pm6 ct6 : Value} {cT6 pT6 : Addr} {td6 : Option Addr} {ts6 : Array (Option Value)} {tv6 : Array Value} (a6 : PySem.W.nsIn K mainGlobals "is_loss" = some (some (.ref f6)))
    (l6 : K.lookup f6 = some ⟨oc6, od6, .func (PySem.W.fnOf "is_loss" "is_loss" (defArgs s_is_loss) (defBody s_is_loss) (defScope s_is_loss) .none kV6 dc6 pm6 an6 (.ref cT6) ct6), sl6⟩)
    (c6 : PySem.W.codeIn K (.ref cT6) "is_loss" = true)
    (k6 : PySem.W.keepIn K (.ref f6) = true)
    (t6 : K.lookup cT6 = some ⟨.type "code", td6, .fields tv6, ts6⟩)
    (u6 : D.codeTab tv6 = some pT6)
    (v6 : K.lookup pT6 = none)
    (w6 : cT6 ≠ pT6)
    {f7 : Addr} {od7 an7 : Option Addr} {sl7 : Array (Option Value)} {oc7 kV7 dc7 pm7 cd7 ct7 : Value} (a7 : PySem.W.nsIn K mainGlobals "need_loss" = some (some (.ref f7)))
    (l7 : K.lookup f7 = some ⟨oc7, od7, .func (PySem.W.fnOf "need_loss" "need_loss" (defArgs s_need_loss) (defBody s_need_loss) (defScope s_need_loss) .none kV7 dc7 pm7 an7 cd7 ct7), sl7⟩)
    (c7 : PySem.W.codeIn K cd7 "need_loss" = true)
    (k7 : PySem.W.keepIn K (.ref f7) = true)
    {f8 : Addr} {od8 an8 : Option Addr} {sl8 : Array (Option Value)} {oc8 kV8 dc8 pm8 cd8 ct8 : Value} (a8 : PySem.W.nsIn K mainGlobals "left_by" = some (some (.ref f8)))
    (l8 : K.lookup f8 = some ⟨oc8, od8, .func (PySem.W.fnOf "left_by" "left_by" (defArgs s_left_by) (defBody s_left_by) (defScope s_left_by) .none kV8 dc8 pm8 an8 cd8 ct8), sl8⟩)
    (c8 : PySem.W.codeIn K cd8 "left_by" = true)
    (k8 : PySem.W.keepIn K (.ref f8) = true)
    {f9 : Addr} {od9 an9 : Option Addr} {sl9 : Array (Option Value)} {oc9 kV9 dc9 pm9 cd9 ct9 : Value} (a9 : PySem.W.nsIn K mainGlobals "weigh" = some (some (.ref f9)))
    (l9 : K.lookup f9 = some ⟨oc9, od9, .func (PySem.W.fnOf "weigh" "weigh" (defArgs s_weigh) (defBody s_weigh) (defScope s_weigh) .none kV9 dc9 pm9 an9 cd9 ct9), sl9⟩)
    (c9 : PySem.W.codeIn K cd9 "weigh" = true)
    (k9 : PySem.W.keepIn K (.ref f9) = true)
    {f10 : Addr} {od10 an10 : Option Addr} {sl10 : Array (Option Value)} {oc10 kV10 dc10 pm10 cd10 ct10 : Value} (a10 : PySem.W.findIn K (.ref cBadBox) "__init__" = some (some (.ref f10)))
    (i10 : PySem.W.typeIn K (.ref f10) = some (.type "function"))
    (l10 : K.lookup f10 = some ⟨oc10, od10, .func (PySem.W.fnOf "__init__" "BadBox.__init__" (defArgs m_BadBox) (defBody m_BadBox) (defScope m_BadBox) .none kV10 dc10 pm10 an10 cd10 ct10), sl10⟩)
    (c10 : PySem.W.codeIn K cd10 "BadBox.__init__" = true)
    (k10 : PySem.W.keepIn K (.ref f10) = true)
    {f11 : Addr} {od11 an11 : Option Addr} {sl11 : Array (Option Value)} {oc11 kV11 dc11 pm11 cd11 ct11 : Value} (a11 : PySem.W.findIn K (.ref cBench) "__init__" = some (some (.ref f11)))
    (i11 : PySem.W.isFn K (.ref f11) = true)
    (l11 : K.lookup f11 = some ⟨oc11, od11, .func (PySem.W.fnOf "__init__" "Bench.__init__" (defArgs m_Bench0) (defBody m_Bench0) (defScope m_Bench0) .none kV11 dc11 pm11 an11 cd11 ct11), sl11⟩)
    (c11 : PySem.W.codeIn K cd11 "Bench.__init__" = true)
    (k11 : PySem.W.keepIn K (.ref f11) = true)
    {f12 : Addr} {od12 an12 : Option Addr} {sl12 : Array (Option Value)} {oc12 kV12 dc12 pm12 cd12 ct12 : Value} {pp12 : Addr} {pr12 : List Value} (a12 : PySem.W.findIn K (.ref cBench) "lost" = some (some (.ref pp12)))
    (i12 : PySem.W.specialIn K (.ref pp12) "__get__" = some (some (.builtin "property.__get__")))
    (j12 : PySem.W.takesIn K (.ref pp12) = some true)
    (r12 : PySem.W.recIn K pp12 "property" = some (.ref f12 :: pr12))
    (l12 : K.lookup f12 = some ⟨oc12, od12, .func (PySem.W.fnOf "lost" "Bench.lost" (defArgs m_Bench1) (defBody m_Bench1) (defScope m_Bench1) .none kV12 dc12 pm12 an12 cd12 ct12), sl12⟩)
    (c12 : PySem.W.codeIn K cd12 "Bench.lost" = true)
    (k12 : PySem.W.keepIn K (.ref f12) = true)
    {f13 : Addr} {od13 an13 : Option Addr} {sl13 : Array (Option Value)} {oc13 kV13 dc13 pm13 cd13 ct13 : Value} {pp13 : Addr} {pr13 : List Value} (a13 : PySem.W.findIn K (.ref cBench) "left" = some (some (.ref pp13)))
    (i13 : PySem.W.specialIn K (.ref pp13) "__get__" = some (some (.builtin "property.__get__")))
    (j13 : PySem.W.takesIn K (.ref pp13) = some true)
    (r13 : PySem.W.recIn K pp13 "property" = some (.ref f13 :: pr13))
    (l13 : K.lookup f13 = some ⟨oc13, od13, .func (PySem.W.fnOf "left" "Bench.left" (defArgs m_Bench2) (defBody m_Bench2) (defScope m_Bench2) .none kV13 dc13 pm13 an13 cd13 ct13), sl13⟩)
    (c13 : PySem.W.codeIn K cd13 "Bench.left" = true)
    (k13 : PySem.W.keepIn K (.ref f13) = true)
    {f14 : Addr} {od14 an14 : Option Addr} {sl14 : Array (Option Value)} {oc14 kV14 dc14 pm14 cd14 ct14 : Value} {pp14 : Addr} {pr14 : List Value} (a14 : PySem.W.findIn K (.ref cBench) "reach" = some (some (.ref pp14)))
    (i14 : PySem.W.specialIn K (.ref pp14) "__get__" = some (some (.builtin "property.__get__")))
    (j14 : PySem.W.takesIn K (.ref pp14) = some true)
    (r14 : PySem.W.recIn K pp14 "property" = some (.ref f14 :: pr14))
    (l14 : K.lookup f14 = some ⟨oc14, od14, .func (PySem.W.fnOf "reach" "Bench.reach" (defArgs m_Bench3) (defBody m_Bench3) (defScope m_Bench3) .none kV14 dc14 pm14 an14 cd14 ct14), sl14⟩)
    (c14 : PySem.W.codeIn K cd14 "Bench.reach" = true)
    (k14 : PySem.W.keepIn K (.ref f14) = true)
    {f15 : Addr} {od15 an15 : Option Addr} {sl15 : Array (Option Value)} {oc15 kV15 dc15 pm15 cd15 ct15 : Value} (a15 : PySem.W.findIn K (.ref cBench) "lose" = some (some (.ref f15)))
    (i15 : PySem.W.isFn K (.ref f15) = true)
    (l15 : K.lookup f15 = some ⟨oc15, od15, .func (PySem.W.fnOf "lose" "Bench.lose" (defArgs m_Bench4) (defBody m_Bench4) (defScope m_Bench4) .none kV15 dc15 pm15 an15 cd15 ct15), sl15⟩)
    (c15 : PySem.W.codeIn K cd15 "Bench.lose" = true)
    (k15 : PySem.W.keepIn K (.ref f15) = true)
    {f16 : Addr} {od16 an16 : Option Addr} {sl16 : Array (Option Value)} {oc16 kV16 dc16 pm16 cd16 ct16 : Value} (a16 : PySem.W.findIn K (.ref cBench) "weigh" = some (some (.ref f16)))
    (i16 : PySem.W.isFn K (.ref f16) = true)
    (l16 : K.lookup f16 = some ⟨oc16, od16, .func (PySem.W.fnOf "weigh" "Bench.weigh" (defArgs m_Bench6) (defBody m_Bench6) (defScope m_Bench6) .none kV16 dc16 pm16 an16 cd16 ct16), sl16⟩)
    (c16 : PySem.W.codeIn K cd16 "Bench.weigh" = true)
    (k16 : PySem.W.keepIn K (.ref f16) = true)
    {f17 : Addr} {od17 an17 : Option Addr} {sl17 : Array (Option Value)} {oc17 kV17 dc17 pm17 cd17 ct17 : Value} (a17 : PySem.W.findIn K (.ref cBench) "find" = some (some (.ref f17)))
    (i17 : PySem.W.isFn K (.ref f17) = true)
    (l17 : K.lookup f17 = some ⟨oc17, od17, .func (PySem.W.fnOf "find" "Bench.find" (defArgs m_Bench5) (defBody m_Bench5) (defScope m_Bench5) .none kV17 dc17 pm17 an17 cd17 ct17), sl17⟩)
    (c17 : PySem.W.codeIn K cd17 "Bench.find" = true)
    (k17 : PySem.W.keepIn K (.ref f17) = true)
    {f18 : Addr} {od18 an18 : Option Addr} {sl18 : Array (Option Value)} {oc18 kV18 dc18 pm18 cd18 ct18 : Value} (a18 : PySem.W.nsIn K mainGlobals "_law_rest" = some (some (.ref f18)))
    (l18 : K.lookup f18 = some ⟨oc18, od18, .func (PySem.W.fnOf "_law_rest" "_law_rest" (defArgs s_law_rest) (defBody s_law_rest) (defScope s_law_rest) .none kV18 dc18 pm18 an18 cd18 ct18), sl18⟩)
    (c18 : PySem.W.codeIn K cd18 "_law_rest" = true)
    (k18 : PySem.W.keepIn K (.ref f18) = true)
    {f19 : Addr} {od19 an19 : Option Addr} {sl19 : Array (Option Value)} {oc19 kV19 dc19 pm19 cd19 ct19 : Value} (a19 : PySem.W.nsIn K mainGlobals "_law_reach" = some (some (.ref f19)))
    (l19 : K.lookup f19 = some ⟨oc19, od19, .func (PySem.W.fnOf "_law_reach" "_law_reach" (defArgs s_law_reach) (defBody s_law_reach) (defScope s_law_reach) .none kV19 dc19 pm19 an19 cd19 ct19), sl19⟩)
    (c19 : PySem.W.codeIn K cd19 "_law_reach" = true)
    (k19 : PySem.W.keepIn K (.ref f19) = true)
    {f20 : Addr} {od20 an20 : Option Addr} {sl20 : Array (Option Value)} {oc20 kV20 dc20 pm20 cd20 ct20 : Value} (a20 : PySem.W.nsIn K mainGlobals "_law_left" = some (some (.ref f20)))
    (l20 : K.lookup f20 = some ⟨oc20, od20, .func (PySem.W.fnOf "_law_left" "_law_left" (defArgs s_law_left) (defBody s_law_left) (defScope s_law_left) .none kV20 dc20 pm20 an20 cd20 ct20), sl20⟩)
    (c20 : PySem.W.codeIn K cd20 "_law_left" = true)
    (k20 : PySem.W.keepIn K (.ref f20) = true)
    {f21 : Addr} {od21 an21 : Option Addr} {sl21 : Array (Option Value)} {oc21 kV21 dc21 pm21 cd21 ct21 : Value} (a21 : PySem.W.nsIn K mainGlobals "_law_taken" = some (some (.ref f21)))
    (l21 : K.lookup f21 = some ⟨oc21, od21, .func (PySem.W.fnOf "_law_taken" "_law_taken" (defArgs s_law_taken) (defBody s_law_taken) (defScope s_law_taken) .none kV21 dc21 pm21 an21 cd21 ct21), sl21⟩)
    (c21 : PySem.W.codeIn K cd21 "_law_taken" = true)
    (k21 : PySem.W.keepIn K (.ref f21) = true)
    {f22 : Addr} {od22 an22 : Option Addr} {sl22 : Array (Option Value)} {oc22 kV22 dc22 pm22 cd22 ct22 : Value} (a22 : PySem.W.nsIn K mainGlobals "_law_box" = some (some (.ref f22)))
    (l22 : K.lookup f22 = some ⟨oc22, od22, .func (PySem.W.fnOf "_law_box" "_law_box" (defArgs s_law_box) (defBody s_law_box) (defScope s_law_box) .none kV22 dc22 pm22 an22 cd22 ct22), sl22⟩)
    (c22 : PySem.W.codeIn K cd22 "_law_box" = true)
    (k22 : PySem.W.keepIn K (.ref f22) = true)
    {f23 : Addr} {od23 an23 : Option Addr} {sl23 : Array (Option Value)} {oc23 kV23 dc23 pm23 cd23 ct23 : Value} (a23 : PySem.W.nsIn K mainGlobals "_law_pick" = some (some (.ref f23)))
    (l23 : K.lookup f23 = some ⟨oc23, od23, .func (PySem.W.fnOf "_law_pick" "_law_pick" (defArgs s_law_pick) (defBody s_law_pick) (defScope s_law_pick) .none kV23 dc23 pm23 an23 cd23 ct23), sl23⟩)
    (c23 : PySem.W.codeIn K cd23 "_law_pick" = true)
    (k23 : PySem.W.keepIn K (.ref f23) = true)
    {f24 : Addr} {od24 an24 : Option Addr} {sl24 : Array (Option Value)} {oc24 kV24 dc24 pm24 cd24 ct24 : Value} (a24 : PySem.W.nsIn K mainGlobals "is_order" = some (some (.ref f24)))
    (l24 : K.lookup f24 = some ⟨oc24, od24, .func (PySem.W.fnOf "is_order" "is_order" (defArgs s_is_order) (defBody s_is_order) (defScope s_is_order) .none kV24 dc24 pm24 an24 cd24 ct24), sl24⟩)
    (c24 : PySem.W.codeIn K cd24 "is_order" = true)
    (k24 : PySem.W.keepIn K (.ref f24) = true)
    {f25 : Addr} {od25 an25 : Option Addr} {sl25 : Array (Option Value)} {oc25 kV25 dc25 pm25 cd25 ct25 : Value} (a25 : PySem.W.nsIn K mainGlobals "need_orders" = some (some (.ref f25)))
    (l25 : K.lookup f25 = some ⟨oc25, od25, .func (PySem.W.fnOf "need_orders" "need_orders" (defArgs s_need_orders) (defBody s_need_orders) (defScope s_need_orders) .none kV25 dc25 pm25 an25 cd25 ct25), sl25⟩)
    (c25 : PySem.W.codeIn K cd25 "need_orders" = true)
    (k25 : PySem.W.keepIn K (.ref f25) = true)
    {f26 : Addr} {od26 an26 : Option Addr} {sl26 : Array (Option Value)} {oc26 kV26 dc26 pm26 cd26 ct26 : Value} (a26 : PySem.W.nsIn K mainGlobals "line_of" = some (some (.ref f26)))
    (l26 : K.lookup f26 = some ⟨oc26, od26, .func (PySem.W.fnOf "line_of" "line_of" (defArgs s_line_of) (defBody s_line_of) (defScope s_line_of) .none kV26 dc26 pm26 an26 cd26 ct26), sl26⟩)
    (c26 : PySem.W.codeIn K cd26 "line_of" = true)
    (k26 : PySem.W.keepIn K (.ref f26) = true)
    {f27 : Addr} {od27 an27 : Option Addr} {sl27 : Array (Option Value)} {oc27 kV27 dc27 pm27 cd27 ct27 : Value} (a27 : PySem.W.nsIn K mainGlobals "weights_text" = some (some (.ref f27)))
    (l27 : K.lookup f27 = some ⟨oc27, od27, .func (PySem.W.fnOf "weights_text" "weights_text" (defArgs s_weights_text) (defBody s_weights_text) (defScope s_weights_text) .none kV27 dc27 pm27 an27 cd27 ct27), sl27⟩)
    (c27 : PySem.W.codeIn K cd27 "weights_text" = true)
    (k27 : PySem.W.keepIn K (.ref f27) = true)
    {f28 : Addr} {od28 an28 : Option Addr} {sl28 : Array (Option Value)} {oc28 kV28 dc28 pm28 cd28 ct28 : Value} (a28 : PySem.W.nsIn K mainGlobals "told_of" = some (some (.ref f28)))
    (l28 : K.lookup f28 = some ⟨oc28, od28, .func (PySem.W.fnOf "told_of" "told_of" (defArgs s_told_of) (defBody s_told_of) (defScope s_told_of) .none kV28 dc28 pm28 an28 cd28 ct28), sl28⟩)
    (c28 : PySem.W.codeIn K cd28 "told_of" = true)
    (k28 : PySem.W.keepIn K (.ref f28) = true)
    {f29 : Addr} {od29 an29 : Option Addr} {sl29 : Array (Option Value)} {oc29 kV29 dc29 pm29 cd29 ct29 : Value} (a29 : PySem.W.nsIn K mainGlobals "tale" = some (some (.ref f29)))
    (l29 : K.lookup f29 = some ⟨oc29, od29, .func (PySem.W.fnOf "tale" "tale" (defArgs s_tale) (defBody s_tale) (defScope s_tale) .none kV29 dc29 pm29 an29 cd29 ct29), sl29⟩)
    (c29 : PySem.W.codeIn K cd29 "tale" = true)
    (k29 : PySem.W.keepIn K (.ref f29) = true)
    {f30 : Addr} {od30 an30 : Option Addr} {sl30 : Array (Option Value)} {oc30 kV30 dc30 pm30 cd30 ct30 : Value} (a30 : PySem.W.nsIn K mainGlobals "_law_weighed" = some (some (.ref f30)))
    (l30 : K.lookup f30 = some ⟨oc30, od30, .func (PySem.W.fnOf "_law_weighed" "_law_weighed" (defArgs s_law_weighed) (defBody s_law_weighed) (defScope s_law_weighed) .none kV30 dc30 pm30 an30 cd30 ct30), sl30⟩)
    (c30 : PySem.W.codeIn K cd30 "_law_weighed" = true)
    (k30 : PySem.W.keepIn K (.ref f30) = true)
    {f31 : Addr} {od31 an31 : Option Addr} {sl31 : Array (Option Value)} {oc31 kV31 dc31 pm31 cd31 ct31 : Value} (a31 : PySem.W.nsIn K mainGlobals "_law_orders" = some (some (.ref f31)))
    (l31 : K.lookup f31 = some ⟨oc31, od31, .func (PySem.W.fnOf "_law_orders" "_law_orders" (defArgs s_law_orders) (defBody s_law_orders) (defScope s_law_orders) .none kV31 dc31 pm31 an31 cd31 ct31), sl31⟩)
    (c31 : PySem.W.codeIn K cd31 "_law_orders" = true)
    (k31 : PySem.W.keepIn K (.ref f31) = true)
    {f32 : Addr} {od32 an32 : Option Addr} {sl32 : Array (Option Value)} {oc32 kV32 dc32 pm32 cd32 ct32 : Value} (a32 : PySem.W.nsIn K mainGlobals "law" = some (some (.ref f32)))
    (l32 : K.lookup f32 = some ⟨oc32, od32, .func (PySem.W.fnOf "law" "law" (defArgs s_law) (defBody s_law) (defScope s_law) .none kV32 dc32 pm32 an32 cd32 ct32), sl32⟩)
    (c32 : PySem.W.codeIn K cd32 "law" = true)
    (k32 : PySem.W.keepIn K (.ref f32) = true)
    {t_MOST_WEIGHTS : Tok} (n_MOST_WEIGHTS : PySem.W.nsIn K mainGlobals "MOST_WEIGHTS" = some (some (.int 10 t_MOST_WEIGHTS)))
    {t_MOST_WEIGHT : Tok} (n_MOST_WEIGHT : PySem.W.nsIn K mainGlobals "MOST_WEIGHT" = some (some (.int 1000 t_MOST_WEIGHT)))
    {t_MOST_ORDERS : Tok} (n_MOST_ORDERS : PySem.W.nsIn K mainGlobals "MOST_ORDERS" = some (some (.int 200 t_MOST_ORDERS)))
    {t_MOST_LOAD : Tok} (n_MOST_LOAD : PySem.W.nsIn K mainGlobals "MOST_LOAD" = some (some (.int 10000 t_MOST_LOAD)))
    (z_len : PySem.W.nsIn K mainGlobals "len" = some none)
    (z_sum : PySem.W.nsIn K mainGlobals "sum" = some none)
    (z_min : PySem.W.nsIn K mainGlobals "min" = some none)
    (z_max : PySem.W.nsIn K mainGlobals "max" = some none)
    (z_sorted : PySem.W.nsIn K mainGlobals "sorted" = some none)
    (z_isinstance : PySem.W.nsIn K mainGlobals "isinstance" = some none)
    (z_int : PySem.W.nsIn K mainGlobals "int" = some none)
    (z_bool : PySem.W.nsIn K mainGlobals "bool" = some none)
    (z_str : PySem.W.nsIn K mainGlobals "str" = some none)
    (z_tuple : PySem.W.nsIn K mainGlobals "tuple" = some none)
    (z_list : PySem.W.nsIn K mainGlobals "list" = some none)
    (z_dict : PySem.W.nsIn K mainGlobals "dict" = some none)
    (z_set : PySem.W.nsIn K mainGlobals "set" = some none)
    (z_range : PySem.W.nsIn K mainGlobals "range" = some none)
    (z_enumerate : PySem.W.nsIn K mainGlobals "enumerate" = some none)
    (z_zip : PySem.W.nsIn K mainGlobals "zip" = some none)
    (z_reversed : PySem.W.nsIn K mainGlobals "reversed" = some none)
    (z_all : PySem.W.nsIn K mainGlobals "all" = some none)
    (z_any : PySem.W.nsIn K mainGlobals "any" = some none)
    (al_weigh_losses : PySem.W.nsIn K mainGlobals "weigh_losses" = some (some (.ref f9)))
    (e1_BadNumber : PySem.W.findIn K (.ref cBadNumber) "__getattribute__" = some (some (.builtin "BaseException.__getattribute__")))
    (e2_BadNumber : PySem.W.findIn K (.ref cBadNumber) "__getattr__" = some none)
    (e3_BadNumber : PySem.W.subIn K (.ref cBadNumber) (.type "BaseException") = some true)
    (e4_BadNumber : PySem.W.hasDictIn K cBadNumber = true)
    (e5_BadNumber : PySem.W.findIn K (.ref cBadNumber) "__class__" = some (some (.builtin "object.__class__")))
    (e6_BadNumber : PySem.W.specialIn K (.builtin "object.__class__") "__get__" = some (some (.builtin "getset_descriptor.__get__")))
    (e7_BadNumber : PySem.W.takesIn K (.builtin "object.__class__") = some true)
    (e8_BadNumber : PySem.W.mroIn K cBadNumber (.type "object") = some true)
    (e9_BadNumber : PySem.W.typeIn K (.ref cBadNumber) = some (.type "type"))
    (ka_BadNumber : PySem.W.keepIn K (.ref cBadNumber) = true)
    (xo_BadNumber : PySem.W.excIn K cBadNumber veTl "ValueError.__new__" = true)
    (e1_BadBox : PySem.W.findIn K (.ref cBadBox) "__getattribute__" = some (some (.builtin "BaseException.__getattribute__")))
    (e2_BadBox : PySem.W.findIn K (.ref cBadBox) "__getattr__" = some none)
    (e3_BadBox : PySem.W.subIn K (.ref cBadBox) (.type "BaseException") = some true)
    (e4_BadBox : PySem.W.hasDictIn K cBadBox = true)
    (e5_BadBox : PySem.W.findIn K (.ref cBadBox) "__class__" = some (some (.builtin "object.__class__")))
    (e6_BadBox : PySem.W.specialIn K (.builtin "object.__class__") "__get__" = some (some (.builtin "getset_descriptor.__get__")))
    (e7_BadBox : PySem.W.takesIn K (.builtin "object.__class__") = some true)
    (e8_BadBox : PySem.W.mroIn K cBadBox (.type "object") = some true)
    (e9_BadBox : PySem.W.typeIn K (.ref cBadBox) = some (.type "type"))
    (ka_BadBox : PySem.W.keepIn K (.ref cBadBox) = true)
    {xnm_BadBox xq_BadBox : Str} {xN_BadBox : Addr} {xbs_BadBox : List Value} {xbm_BadBox : List Value} {xsn_BadBox : List Str} {xsub_BadBox : List Value} {xab_BadBox : Bool} {xcol_BadBox : Option Bool} {xdd_BadBox : Option Addr} {xm0_BadBox xm1_BadBox xm2_BadBox xm3_BadBox xm5_BadBox : Option Value} (xl_BadBox : K.lookup cBadBox = some (excClassObj xnm_BadBox xq_BadBox cBadBox xN_BadBox xbs_BadBox xbm_BadBox true xsn_BadBox xsub_BadBox xab_BadBox xcol_BadBox xdd_BadBox xm0_BadBox xm1_BadBox xm2_BadBox xm3_BadBox xm5_BadBox "ValueError.__new__"))
    (xr_BadBox : PySem.HandSPX.refsVE xbm_BadBox = true)
    (y4_BadBox : PySem.W.findIn K (.ref cBadBox) "__setattr__" = some (some (.builtin "object.__setattr__")))
    (xf_BadBox : PySem.W.findIn K (.ref cBadBox) "index" = some none)
    (y1_Bench : PySem.W.plainGet K cBench Str.empty = true)
    (y2_Bench : PySem.W.hasDictIn K cBench = true)
    (y3_Bench : PySem.W.plainOver K cBench = true)
    (y4_Bench : PySem.W.findIn K (.ref cBench) "__setattr__" = some (some (.builtin "object.__setattr__")))
    (na_Bench__box : PySem.W.findIn K (.ref cBench) "_box" = some none)
    (na_Bench__lost : PySem.W.findIn K (.ref cBench) "_lost" = some none)
    (mk_Bench : PySem.W.makesIn K cBench = true)
    (ka_Bench : PySem.W.keepIn K (.ref cBench) = true)
    (e1_BadStep : PySem.W.findIn K (.ref cBadStep) "__getattribute__" = some (some (.builtin "BaseException.__getattribute__")))
    (e2_BadStep : PySem.W.findIn K (.ref cBadStep) "__getattr__" = some none)
    (e3_BadStep : PySem.W.subIn K (.ref cBadStep) (.type "BaseException") = some true)
    (e4_BadStep : PySem.W.hasDictIn K cBadStep = true)
    (e5_BadStep : PySem.W.findIn K (.ref cBadStep) "__class__" = some (some (.builtin "object.__class__")))
    (e6_BadStep : PySem.W.specialIn K (.builtin "object.__class__") "__get__" = some (some (.builtin "getset_descriptor.__get__")))
    (e7_BadStep : PySem.W.takesIn K (.builtin "object.__class__") = some true)
    (e8_BadStep : PySem.W.mroIn K cBadStep (.type "object") = some true)
    (e9_BadStep : PySem.W.typeIn K (.ref cBadStep) = some (.type "type"))
    (ka_BadStep : PySem.W.keepIn K (.ref cBadStep) = true)
    (xo_BadStep : PySem.W.excIn K cBadStep veTl "ValueError.__new__" = true)
    {aWORDS : Addr} {odWORDS : Option Addr} {slWORDS : Array (Option Value)} {nnWORDS : Nat} {tkWORDS0 tkWORDS1 tkWORDS2 : Tok} (gd1_WORDS : PySem.W.nsIn K mainGlobals "WORDS" = some (some (.ref aWORDS)))
    (gd2_WORDS : K.lookup aWORDS = some ⟨.type "tuple", odWORDS, .seq #[.str "find" tkWORDS0, .str "lose" tkWORDS1, .str "weigh" tkWORDS2] nnWORDS, slWORDS⟩)
    (ex_BadStep_BadStep : PySem.W.exmOne K (.ref cBadStep) (.ref cBadStep) = some true)
    : ∃ (fd : FuncData) (cs : List (Addr × Addr)) (tb : D.Tbs), (∀ q ∈ tb, ∃ p ∈ cs, p.2 = q.1) ∧ (∀ p ∈ cs, ∃ x ∈ (["is_loss"] : List Str), D.TabIn K mg x p.1 p.2) ∧ (∀ (s : Shared) (v : Value), BindsTo s fd ⟨[v], []⟩ [("_law_script", v)]) ∧ ∀ base : Heap, K.In base → base.Ns mainGlobals mg → (∀ p ∈ cs, GxR.TabB base mg p.1 p.2) → FnOk l.prog w K mg base CX0 9 fa fd ["_law_script"] (spV K tb preLaw) := by
  have e := hfa.symm.trans (PySem.W.mg_of X G a32)
  cases e
  have B : Bt mg := ⟨PySem.W.mg_none_of X G z_len, PySem.W.mg_none_of X G z_sum, PySem.W.mg_none_of X G z_min, PySem.W.mg_none_of X G z_max, PySem.W.mg_none_of X G z_sorted, PySem.W.mg_none_of X G z_isinstance, PySem.W.mg_none_of X G z_int, PySem.W.mg_none_of X G z_bool, PySem.W.mg_none_of X G z_str, PySem.W.mg_none_of X G z_tuple, PySem.W.mg_none_of X G z_list, PySem.W.mg_none_of X G z_dict, PySem.W.mg_none_of X G z_set, PySem.W.mg_none_of X G z_range, PySem.W.mg_none_of X G z_enumerate, PySem.W.mg_none_of X G z_zip, PySem.W.mg_none_of X G z_reversed, PySem.W.mg_none_of X G z_all, PySem.W.mg_none_of X G z_any⟩
  have C : Ct mg := ⟨⟨_, PySem.W.mg_of X G n_MOST_WEIGHTS⟩, ⟨_, PySem.W.mg_of X G n_MOST_WEIGHT⟩⟩
  have cm : Cm mg := ⟨⟨_, PySem.W.mg_of X G n_MOST_ORDERS⟩, ⟨_, PySem.W.mg_of X G n_MOST_LOAD⟩⟩
  have htabs : ∀ p ∈ [(cT6, pT6)], ∃ x ∈ (["is_loss"] : List Str), D.TabIn K mg x p.1 p.2 := fun p hp => by
    rcases List.mem_cons.mp hp with rfl | hp
    · exact ⟨"is_loss", (.head _), _, _, _, td6, tv6, ts6, PySem.W.mg_of X G a6, l6, rfl, rfl, t6, u6, v6, w6⟩
    cases hp
  have htb : ∀ q ∈ ([(pT6, "")] : D.Tbs), ∃ p ∈ [(cT6, pT6)], p.2 = q.1 := fun q hq => by
    rcases List.mem_cons.mp hq with rfl | hq
    · exact ⟨(cT6, pT6), (.head _), rfl⟩
    cases hq
  refine ⟨PySem.W.fnOf "law" "law" (defArgs s_law) (defBody s_law) (defScope s_law) .none kV32 dc32 pm32 an32 cd32 ct32, _, [(pT6, "")], htb, htabs, fun s v => .of_eq rfl, fun base _ _ htab => ?_⟩
  have un_is_loss : ∀ q ∈ ([(pT6, "")] : D.Tbs), q.1 = pT6 → q.2 = "" := fun q hq e => by
    rcases List.mem_cons.mp hq with rfl | hq
    · rfl
    cases hq
  have t1_is_loss : TbN base mg [(pT6, "")] (.ref cT6) cT6 pT6 "" := ⟨rfl, htab (cT6, pT6) (.head _), (.head _), un_is_loss⟩
  have F_is_number := ok_is_number (tb := [(pT6, "")]) (P := l.prog) (w := w) (base := base) (fun_mk (st := s_is_number) l0 c0 k0) (PySem.W.mg_of X G a0) B
  have F_need_number := ok_need_number (tb := [(pT6, "")]) (P := l.prog) (w := w) (base := base) (fun_mk (st := s_need_number) l1 c1 k1) (PySem.W.mg_of X G a1) B F_is_number
  have F_light_sums := ok_light_sums (tb := [(pT6, "")]) (P := l.prog) (w := w) (base := base) (fun_mk (st := s_light_sums) l2 c2 k2) (PySem.W.mg_of X G a2) B
  have F_need_box := ok_need_box (tb := [(pT6, "")]) (P := l.prog) (w := w) (base := base) (fun_mk (st := s_need_box) l3 c3 k3) (PySem.W.mg_of X G a3) B C F_is_number
  have F_gap_of := ok_gap_of (tb := [(pT6, "")]) (P := l.prog) (w := w) (base := base) (fun_mk (st := s_gap_of) l4 c4 k4) (PySem.W.mg_of X G a4) B F_light_sums
  have F_safe_of := ok_safe_of (tb := [(pT6, "")]) (P := l.prog) (w := w) (base := base) (fun_mk (st := s_safe_of) l5 c5 k5) (PySem.W.mg_of X G a5) B F_light_sums F_gap_of
  have F_is_loss := ok_is_loss (tb := [(pT6, "")]) (P := l.prog) (w := w) (base := base) (funT_mk (st := s_is_loss) l6 c6 k6) t1_is_loss (PySem.W.mg_of X G a6) B F_is_number
  have F_need_loss := ok_need_loss (tb := [(pT6, "")]) (P := l.prog) (w := w) (base := base) (fun_mk (st := s_need_loss) l7 c7 k7) (PySem.W.mg_of X G a7) F_is_loss
  have F_left_by := ok_left_by (tb := [(pT6, "")]) (P := l.prog) (w := w) (base := base) (fun_mk (st := s_left_by) l8 c8 k8) (PySem.W.mg_of X G a8) B
  have F_weigh := ok_weigh (tb := [(pT6, "")]) (P := l.prog) (w := w) (base := base) (fun_mk (st := s_weigh) l9 c9 k9) (PySem.W.mg_of X G a9) B F_need_box F_need_loss F_need_number F_left_by
  have F_weigh_losses : Fd l.prog w K mg base 5 "weigh_losses" ["box", "loss", "load"] (spV K [(pT6, "")] preWeigh) := by
    obtain ⟨fa_, fd_, o_, m_, kk_, bb_⟩ := F_weigh
    have e_ := m_.symm.trans (PySem.W.mg_of X G a9)
    cases e_
    exact ⟨_, _, o_, PySem.W.mg_of X G al_weigh_losses, kk_, bb_⟩
  have iBadBox : Xi l.prog w K mg base cBadBox "index" := ⟨_, _, _, a10, i10, ini_BadBox (P := l.prog) (w := w) (base := base) (fun_mk (st := m_BadBox) l10 c10 k10) (C := cBadBox), (fun_mk (st := m_BadBox) l10 c10 k10).binds fun _ _ _ _ _ _ us hl => match us, hl with | [_, _], _ => rfl⟩
  have xcBadNumber : ExcC K cBadNumber := ⟨e1_BadNumber, e2_BadNumber, e3_BadNumber, e4_BadNumber, e5_BadNumber, e6_BadNumber, e7_BadNumber, e8_BadNumber⟩
  have xbBadNumber : XcB K cBadNumber := ⟨xcBadNumber, e9_BadNumber, ka_BadNumber⟩
  have xBadNumber : Xc0 K mg "BadNumber" cBadNumber := ⟨xbBadNumber, xo_BadNumber, (PySem.W.mg_of X G g_BadNumber)⟩
  have FX_need_number := okX_need_number (tb := [(pT6, "")]) (P := l.prog) (w := w) (base := base) (fun_mk (st := s_need_number) l1 c1 k1) (PySem.W.mg_of X G a1) xBadNumber F_is_number
  have xcBadBox : ExcC K cBadBox := ⟨e1_BadBox, e2_BadBox, e3_BadBox, e4_BadBox, e5_BadBox, e6_BadBox, e7_BadBox, e8_BadBox⟩
  have xbBadBox : XcB K cBadBox := ⟨xcBadBox, e9_BadBox, ka_BadBox⟩
  have xBadBox : Xc1 K mg "BadBox" "index" cBadBox := ⟨xbBadBox, ⟨⟨_, _, _, _, _, _, _, _, _, _, _, _, _, _, _, xl_BadBox, xr_BadBox⟩, y4_BadBox, e3_BadBox, e9_BadBox, ka_BadBox⟩, xf_BadBox, (PySem.W.mg_of X G g_BadBox)⟩
  have FX_need_box := okX_need_box (tb := [(pT6, "")]) (P := l.prog) (w := w) (base := base) (fun_mk (st := s_need_box) l3 c3 k3) (PySem.W.mg_of X G a3) B C xBadBox iBadBox F_is_number
  have yBench : Cls K cBench := ⟨y1_Bench, y2_Bench, y3_Bench, y4_Bench⟩
  have M_Bench0 : Mi l.prog w K mg base CX0 3 cBench ["self", "box"] (spM K [(pT6, "")] cBench preBench0) := ⟨_, _, ok_Bench0 (tb := [(pT6, "")]) (P := l.prog) (w := w) (base := base) (fun_mk (st := m_Bench0) l11 c11 k11) yBench na_Bench__box na_Bench__lost F_need_box, ⟨mk_Bench, a11, i11, ka_Bench⟩, (fun_mk (st := m_Bench0) l11 c11 k11).binds fun _ _ _ _ _ _ us hl => match us, hl with | [_, _], _ => rfl⟩
  have MX_Bench0 : Mi l.prog w K mg base (L2.CX l.prog w) 4 cBench ["self", "box"] (spMX K mg [(pT6, "")] cBench preBench0X) := ⟨_, _, okX_Bench0 (tb := [(pT6, "")]) (P := l.prog) (w := w) (base := base) (fun_mk (st := m_Bench0) l11 c11 k11) yBench xBadBox FX_need_box, ⟨mk_Bench, a11, i11, ka_Bench⟩, (fun_mk (st := m_Bench0) l11 c11 k11).binds fun _ _ _ _ _ _ us hl => match us, hl with | [_, _], _ => rfl⟩
  have M_Bench1 : Mp l.prog w K mg base 1 cBench "lost" (spM K [(pT6, "")] cBench preBench1) := ⟨_, _, _, ok_Bench1 (tb := [(pT6, "")]) (P := l.prog) (w := w) (base := base) (fun_mk (st := m_Bench1) l12 c12 k12) yBench na_Bench__lost, ⟨a12, i12, j12, ⟨_, r12⟩⟩, (fun_mk (st := m_Bench1) l12 c12 k12).binds fun _ _ _ _ _ _ us hl => match us, hl with | [_], _ => rfl⟩
  have M_Bench2 : Mp l.prog w K mg base 2 cBench "left" (spM K [(pT6, "")] cBench preBench2) := ⟨_, _, _, ok_Bench2 (tb := [(pT6, "")]) (P := l.prog) (w := w) (base := base) (fun_mk (st := m_Bench2) l13 c13 k13) yBench na_Bench__box na_Bench__lost F_left_by, ⟨a13, i13, j13, ⟨_, r13⟩⟩, (fun_mk (st := m_Bench2) l13 c13 k13).binds fun _ _ _ _ _ _ us hl => match us, hl with | [_], _ => rfl⟩
  have M_Bench3 : Mp l.prog w K mg base 4 cBench "reach" (spM K [(pT6, "")] cBench preBench3) := ⟨_, _, _, ok_Bench3 (tb := [(pT6, "")]) (P := l.prog) (w := w) (base := base) (fun_mk (st := m_Bench3) l14 c14 k14) yBench M_Bench2 F_safe_of, ⟨a14, i14, j14, ⟨_, r14⟩⟩, (fun_mk (st := m_Bench3) l14 c14 k14).binds fun _ _ _ _ _ _ us hl => match us, hl with | [_], _ => rfl⟩
  have M_Bench4 : Md l.prog w K mg base CX0 3 cBench "lose" ["self", "place"] (spM K [(pT6, "")] cBench preBench4) := ⟨_, _, ok_Bench4 (tb := [(pT6, "")]) (P := l.prog) (w := w) (base := base) (fun_mk (st := m_Bench4) l15 c15 k15) B yBench na_Bench__box na_Bench__lost F_need_number, ⟨a15, i15, k15⟩, (fun_mk (st := m_Bench4) l15 c15 k15).binds fun _ _ _ _ _ _ us hl => match us, hl with | [_, _], _ => rfl⟩
  have xcBadStep : ExcC K cBadStep := ⟨e1_BadStep, e2_BadStep, e3_BadStep, e4_BadStep, e5_BadStep, e6_BadStep, e7_BadStep, e8_BadStep⟩
  have xbBadStep : XcB K cBadStep := ⟨xcBadStep, e9_BadStep, ka_BadStep⟩
  have xBadStep : Xc0 K mg "BadStep" cBadStep := ⟨xbBadStep, xo_BadStep, (PySem.W.mg_of X G g_BadStep)⟩
  have MX_Bench4 : Md l.prog w K mg base (L2.CX l.prog w) 3 cBench "lose" ["self", "place"] (spMX K mg [(pT6, "")] cBench preBench4X) := ⟨_, _, okX_Bench4 (tb := [(pT6, "")]) (P := l.prog) (w := w) (base := base) (fun_mk (st := m_Bench4) l15 c15 k15) B yBench na_Bench__box na_Bench__lost xBadNumber xBadStep F_need_number FX_need_number, ⟨a15, i15, k15⟩, (fun_mk (st := m_Bench4) l15 c15 k15).binds fun _ _ _ _ _ _ us hl => match us, hl with | [_, _], _ => rfl⟩
  have M_Bench6 : Md l.prog w K mg base CX0 6 cBench "weigh" ["self", "load"] (spM K [(pT6, "")] cBench preBench6) := ⟨_, _, ok_Bench6 (tb := [(pT6, "")]) (P := l.prog) (w := w) (base := base) (fun_mk (st := m_Bench6) l16 c16 k16) B C yBench na_Bench__box na_Bench__lost F_need_number F_weigh_losses, ⟨a16, i16, k16⟩, (fun_mk (st := m_Bench6) l16 c16 k16).binds fun _ _ _ _ _ _ us hl => match us, hl with | [_, _], _ => rfl⟩
  have MX_Bench6 : Md l.prog w K mg base (L2.CX l.prog w) 6 cBench "weigh" ["self", "load"] (spMX K mg [(pT6, "")] cBench preBench6X) := ⟨_, _, okX_Bench6 (tb := [(pT6, "")]) (P := l.prog) (w := w) (base := base) (fun_mk (st := m_Bench6) l16 c16 k16) B C yBench na_Bench__box na_Bench__lost xBadNumber xBadStep F_need_number FX_need_number F_weigh_losses, ⟨a16, i16, k16⟩, (fun_mk (st := m_Bench6) l16 c16 k16).binds fun _ _ _ _ _ _ us hl => match us, hl with | [_, _], _ => rfl⟩
  have M_Bench5 : Md l.prog w K mg base CX0 3 cBench "find" ["self", "place"] (spM K [(pT6, "")] cBench preBench5) := ⟨_, _, ok_Bench5 (tb := [(pT6, "")]) (P := l.prog) (w := w) (base := base) (fun_mk (st := m_Bench5) l17 c17 k17) B yBench na_Bench__box na_Bench__lost F_need_number, ⟨a17, i17, k17⟩, (fun_mk (st := m_Bench5) l17 c17 k17).binds fun _ _ _ _ _ _ us hl => match us, hl with | [_, _], _ => rfl⟩
  have MX_Bench5 : Md l.prog w K mg base (L2.CX l.prog w) 3 cBench "find" ["self", "place"] (spMX K mg [(pT6, "")] cBench preBench5X) := ⟨_, _, okX_Bench5 (tb := [(pT6, "")]) (P := l.prog) (w := w) (base := base) (fun_mk (st := m_Bench5) l17 c17 k17) B yBench na_Bench__box na_Bench__lost xBadNumber xBadStep F_need_number FX_need_number, ⟨a17, i17, k17⟩, (fun_mk (st := m_Bench5) l17 c17 k17).binds fun _ _ _ _ _ _ us hl => match us, hl with | [_, _], _ => rfl⟩
  have F_law_rest := ok_law_rest (tb := [(pT6, "")]) (P := l.prog) (w := w) (base := base) (fun_mk (st := s_law_rest) l18 c18 k18) (PySem.W.mg_of X G a18) B
  have F_law_reach := ok_law_reach (tb := [(pT6, "")]) (P := l.prog) (w := w) (base := base) (fun_mk (st := s_law_reach) l19 c19 k19) (PySem.W.mg_of X G a19) B
  have F_law_left := ok_law_left (tb := [(pT6, "")]) (P := l.prog) (w := w) (base := base) (fun_mk (st := s_law_left) l20 c20 k20) (PySem.W.mg_of X G a20) F_law_rest
  have F_law_taken := ok_law_taken (tb := [(pT6, "")]) (P := l.prog) (w := w) (base := base) (fun_mk (st := s_law_taken) l21 c21 k21) (PySem.W.mg_of X G a21) B
  have F_law_box := ok_law_box (tb := [(pT6, "")]) (P := l.prog) (w := w) (base := base) (fun_mk (st := s_law_box) l22 c22 k22) (PySem.W.mg_of X G a22) B F_law_taken
  have F_law_pick := ok_law_pick (tb := [(pT6, "")]) (P := l.prog) (w := w) (base := base) (fun_mk (st := s_law_pick) l23 c23 k23) (PySem.W.mg_of X G a23) B F_law_taken
  have F_is_order := ok_is_order (tb := [(pT6, "")]) (P := l.prog) (w := w) (base := base) (fun_mk (st := s_is_order) l24 c24 k24) (PySem.W.mg_of X G a24) B cm (globD_strs ["find", "lose", "weigh"] (PySem.W.mg_of X G gd1_WORDS) gd2_WORDS rfl rfl (Nat.le_of_ble_eq_true rfl) (.cons ⟨_, rfl⟩ (.cons ⟨_, rfl⟩ (.cons ⟨_, rfl⟩ .nil)))) F_is_number
  have F_need_orders := ok_need_orders (tb := [(pT6, "")]) (P := l.prog) (w := w) (base := base) (fun_mk (st := s_need_orders) l25 c25 k25) (PySem.W.mg_of X G a25) B cm F_is_order
  have F_line_of := ok_line_of (tb := [(pT6, "")]) (P := l.prog) (w := w) (base := base) (fun_mk (st := s_line_of) l26 c26 k26) (PySem.W.mg_of X G a26) B
  have F_weights_text := ok_weights_text (tb := [(pT6, "")]) (P := l.prog) (w := w) (base := base) (fun_mk (st := s_weights_text) l27 c27 k27) (PySem.W.mg_of X G a27) B
  have F_told_of := ok_told_of (tb := [(pT6, "")]) (P := l.prog) (w := w) (base := base) (fun_mk (st := s_told_of) l28 c28 k28) (PySem.W.mg_of X G a28) B yBench xBadStep ex_BadStep_BadStep F_weights_text M_Bench3 M_Bench4 MX_Bench4 M_Bench5 MX_Bench5 M_Bench6 MX_Bench6
  have F_tale := ok_tale (tb := [(pT6, "")]) (P := l.prog) (w := w) (base := base) (fun_mk (st := s_tale) l29 c29 k29) (PySem.W.mg_of X G a29) B yBench (PySem.W.mg_of X G g_Bench) F_line_of F_need_box F_need_orders F_told_of M_Bench0
  have F_law_weighed := ok_law_weighed (tb := [(pT6, "")]) (P := l.prog) (w := w) (base := base) (fun_mk (st := s_law_weighed) l30 c30 k30) (PySem.W.mg_of X G a30) B F_law_left
  have F_law_orders := ok_law_orders (tb := [(pT6, "")]) (P := l.prog) (w := w) (base := base) (fun_mk (st := s_law_orders) l31 c31 k31) (PySem.W.mg_of X G a31) B F_law_taken
  exact ok_law (tb := [(pT6, "")]) (fun_mk (st := s_law) l32 c32 k32) B F_law_box F_law_left F_law_orders F_law_pick F_law_reach F_law_taken F_law_weighed F_tale
end Q

open PySem PySem.W PyProof.Rows in
set_option maxRecDepth 100000 in
set_option maxHeartbeats 0 in
theorem PySem.Challenge.cw_lostweights_k61_whole_tales_holds : PySem.Challenge.rw_lostweights_k61_whole_tales.Holds := by
  w_on; o_law; k_head; (case hw => w_witness2)
  k_fill
  first
    | refine D.law_walkT (l := PySem.Challenge.rw_lostweights_k61_whole_tales) (k := 9) (pre := Q.preLaw) (fun ns _ => ⟨ns, rfl, rfl⟩) ⟨rfl, by decide, by decide⟩ rfl rfl (fun w h Y => PySem.W.kIn_of Y) ["is_loss"] (by decide +kernel) ?F
    | refine D.law_walkT (l := PySem.Challenge.rw_lostweights_k61_whole_tales) (k := 9) (pre := Q.preLaw) (fun ns _ => ⟨ns, rfl, rfl⟩) ⟨rfl, by decide, by decide⟩ rfl rfl (fun w h Y => PySem.W.km_in_of Y) ["is_loss"] (by decide +kernel) ?F
  case F =>
    intro w mg fa h KX G hmg
    refine' Q.all_mk KX G hmg ?g_BadNumber ?g_BadBox ?g_BadStep ?g_Bench ?a0 ?l0 ?c0 ?k0 ?a1 ?l1 ?c1 ?k1 ?a2 ?l2 ?c2 ?k2 ?a3 ?l3 ?c3 ?k3 ?a4 ?l4 ?c4 ?k4 ?a5 ?l5 ?c5 ?k5 ?a6 ?l6 ?c6 ?k6 ?t6 ?u6 ?v6 ?w6 ?a7 ?l7 ?c7 ?k7 ?a8 ?l8 ?c8 ?k8 ?a9 ?l9 ?c9 ?k9 ?a10 ?i10 ?l10 ?c10 ?k10 ?a11 ?i11 ?l11 ?c11 ?k11 ?a12 ?i12 ?j12 ?r12 ?l12 ?c12 ?k12 ?a13 ?i13 ?j13 ?r13 ?l13 ?c13 ?k13 ?a14 ?i14 ?j14 ?r14 ?l14 ?c14 ?k14 ?a15 ?i15 ?l15 ?c15 ?k15 ?a16 ?i16 ?l16 ?c16 ?k16 ?a17 ?i17 ?l17 ?c17 ?k17 ?a18 ?l18 ?c18 ?k18 ?a19 ?l19 ?c19 ?k19 ?a20 ?l20 ?c20 ?k20 ?a21 ?l21 ?c21 ?k21 ?a22 ?l22 ?c22 ?k22 ?a23 ?l23 ?c23 ?k23 ?a24 ?l24 ?c24 ?k24 ?a25 ?l25 ?c25 ?k25 ?a26 ?l26 ?c26 ?k26 ?a27 ?l27 ?c27 ?k27 ?a28 ?l28 ?c28 ?k28 ?a29 ?l29 ?c29 ?k29 ?a30 ?l30 ?c30 ?k30 ?a31 ?l31 ?c31 ?k31 ?a32 ?l32 ?c32 ?k32 ?n_MOST_WEIGHTS ?n_MOST_WEIGHT ?n_MOST_ORDERS ?n_MOST_LOAD ?z_len ?z_sum ?z_min ?z_max ?z_sorted ?z_isinstance ?z_int ?z_bool ?z_str ?z_tuple ?z_list ?z_dict ?z_set ?z_range ?z_enumerate ?z_zip ?z_reversed ?z_all ?z_any ?al_weigh_losses ?e1_BadNumber ?e2_BadNumber ?e3_BadNumber ?e4_BadNumber ?e5_BadNumber ?e6_BadNumber ?e7_BadNumber ?e8_BadNumber ?e9_BadNumber ?ka_BadNumber ?xo_BadNumber ?e1_BadBox ?e2_BadBox ?e3_BadBox ?e4_BadBox ?e5_BadBox ?e6_BadBox ?e7_BadBox ?e8_BadBox ?e9_BadBox ?ka_BadBox ?xl_BadBox ?xr_BadBox ?y4_BadBox ?xf_BadBox ?y1_Bench ?y2_Bench ?y3_Bench ?y4_Bench ?na_Bench__box ?na_Bench__lost ?mk_Bench ?ka_Bench ?e1_BadStep ?e2_BadStep ?e3_BadStep ?e4_BadStep ?e5_BadStep ?e6_BadStep ?e7_BadStep ?e8_BadStep ?e9_BadStep ?ka_BadStep ?xo_BadStep ?gd1_WORDS ?gd2_WORDS ?ex_BadStep_BadStep
    (case g_BadNumber => k_is)
    (case g_BadBox => k_is)
    (case g_BadStep => k_is)
    (case g_Bench => k_is)
    (case a0 => k_is)
    (case l0 => k_is)
    (case c0 => k_is)
    (case k0 => k_is)
    (case a1 => k_is)
    (case l1 => k_is)
    (case c1 => k_is)
    (case k1 => k_is)
    (case a2 => k_is)
    (case l2 => k_is)
    (case c2 => k_is)
    (case k2 => k_is)
    (case a3 => k_is)
    (case l3 => k_is)
    (case c3 => k_is)
    (case k3 => k_is)
    (case a4 => k_is)
    (case l4 => k_is)
    (case c4 => k_is)
    (case k4 => k_is)
    (case a5 => k_is)
    (case l5 => k_is)
    (case c5 => k_is)
    (case k5 => k_is)
    (case a6 => k_is)
    (case l6 => k_is)
    (case c6 => k_is)
    (case k6 => k_is)
    (case t6 => k_is)
    (case u6 => rfl)
    (case v6 => first | kernel_rfl | rfl)
    (case w6 => decide)
    (case a7 => k_is)
    (case l7 => k_is)
    (case c7 => k_is)
    (case k7 => k_is)
    (case a8 => k_is)
    (case l8 => k_is)
    (case c8 => k_is)
    (case k8 => k_is)
    (case a9 => k_is)
    (case l9 => k_is)
    (case c9 => k_is)
    (case k9 => k_is)
    (case a10 => k_is)
    (case i10 => k_is)
    (case l10 => k_is)
    (case c10 => k_is)
    (case k10 => k_is)
    (case a11 => k_is)
    (case i11 => k_is)
    (case l11 => k_is)
    (case c11 => k_is)
    (case k11 => k_is)
    (case a12 => k_is)
    (case i12 => k_is)
    (case j12 => k_is)
    (case r12 => k_is)
    (case l12 => k_is)
    (case c12 => k_is)
    (case k12 => k_is)
    (case a13 => k_is)
    (case i13 => k_is)
    (case j13 => k_is)
    (case r13 => k_is)
    (case l13 => k_is)
    (case c13 => k_is)
    (case k13 => k_is)
    (case a14 => k_is)
    (case i14 => k_is)
    (case j14 => k_is)
    (case r14 => k_is)
    (case l14 => k_is)
    (case c14 => k_is)
    (case k14 => k_is)
    (case a15 => k_is)
    (case i15 => k_is)
    (case l15 => k_is)
    (case c15 => k_is)
    (case k15 => k_is)
    (case a16 => k_is)
    (case i16 => k_is)
    (case l16 => k_is)
    (case c16 => k_is)
    (case k16 => k_is)
    (case a17 => k_is)
    (case i17 => k_is)
    (case l17 => k_is)
    (case c17 => k_is)
    (case k17 => k_is)
    (case a18 => k_is)
    (case l18 => k_is)
    (case c18 => k_is)
    (case k18 => k_is)
    (case a19 => k_is)
    (case l19 => k_is)
    (case c19 => k_is)
    (case k19 => k_is)
    (case a20 => k_is)
    (case l20 => k_is)
    (case c20 => k_is)
    (case k20 => k_is)
    (case a21 => k_is)
    (case l21 => k_is)
    (case c21 => k_is)
    (case k21 => k_is)
    (case a22 => k_is)
    (case l22 => k_is)
    (case c22 => k_is)
    (case k22 => k_is)
    (case a23 => k_is)
    (case l23 => k_is)
    (case c23 => k_is)
    (case k23 => k_is)
    (case a24 => k_is)
    (case l24 => k_is)
    (case c24 => k_is)
    (case k24 => k_is)
    (case a25 => k_is)
    (case l25 => k_is)
    (case c25 => k_is)
    (case k25 => k_is)
    (case a26 => k_is)
    (case l26 => k_is)
    (case c26 => k_is)
    (case k26 => k_is)
    (case a27 => k_is)
    (case l27 => k_is)
    (case c27 => k_is)
    (case k27 => k_is)
    (case a28 => k_is)
    (case l28 => k_is)
    (case c28 => k_is)
    (case k28 => k_is)
    (case a29 => k_is)
    (case l29 => k_is)
    (case c29 => k_is)
    (case k29 => k_is)
    (case a30 => k_is)
    (case l30 => k_is)
    (case c30 => k_is)
    (case k30 => k_is)
    (case a31 => k_is)
    (case l31 => k_is)
    (case c31 => k_is)
    (case k31 => k_is)
    (case a32 => k_is)
    (case l32 => k_is)
    (case c32 => k_is)
    (case k32 => k_is)
    (case n_MOST_WEIGHTS => k_is)
    (case n_MOST_WEIGHT => k_is)
    (case n_MOST_ORDERS => k_is)
    (case n_MOST_LOAD => k_is)
    (case z_len => k_is)
    (case z_sum => k_is)
    (case z_min => k_is)
    (case z_max => k_is)
    (case z_sorted => k_is)
    (case z_isinstance => k_is)
    (case z_int => k_is)
    (case z_bool => k_is)
    (case z_str => k_is)
    (case z_tuple => k_is)
    (case z_list => k_is)
    (case z_dict => k_is)
    (case z_set => k_is)
    (case z_range => k_is)
    (case z_enumerate => k_is)
    (case z_zip => k_is)
    (case z_reversed => k_is)
    (case z_all => k_is)
    (case z_any => k_is)
    (case al_weigh_losses => k_is)
    (case e1_BadNumber => k_is)
    (case e2_BadNumber => k_is)
    (case e3_BadNumber => k_is)
    (case e4_BadNumber => k_is)
    (case e5_BadNumber => k_is)
    (case e6_BadNumber => k_is)
    (case e7_BadNumber => k_is)
    (case e8_BadNumber => k_is)
    (case e9_BadNumber => k_is)
    (case ka_BadNumber => k_is)
    (case xo_BadNumber => first | kernel_rfl | rfl | decide +kernel)
    (case e1_BadBox => k_is)
    (case e2_BadBox => k_is)
    (case e3_BadBox => k_is)
    (case e4_BadBox => k_is)
    (case e5_BadBox => k_is)
    (case e6_BadBox => k_is)
    (case e7_BadBox => k_is)
    (case e8_BadBox => k_is)
    (case e9_BadBox => k_is)
    (case ka_BadBox => k_is)
    (case xl_BadBox => k_is)
    (case xr_BadBox => first | rfl | decide +kernel)
    (case y4_BadBox => k_is)
    (case xf_BadBox => k_is)
    (case y1_Bench => k_is)
    (case y2_Bench => k_is)
    (case y3_Bench => k_is)
    (case y4_Bench => k_is)
    (case na_Bench__box => k_is)
    (case na_Bench__lost => k_is)
    (case mk_Bench => k_is)
    (case ka_Bench => k_is)
    (case e1_BadStep => k_is)
    (case e2_BadStep => k_is)
    (case e3_BadStep => k_is)
    (case e4_BadStep => k_is)
    (case e5_BadStep => k_is)
    (case e6_BadStep => k_is)
    (case e7_BadStep => k_is)
    (case e8_BadStep => k_is)
    (case e9_BadStep => k_is)
    (case ka_BadStep => k_is)
    (case xo_BadStep => first | kernel_rfl | rfl | decide +kernel)
    (case gd1_WORDS => k_is)
    (case gd2_WORDS => k_is)
    (case ex_BadStep_BadStep => first | k_is | kernel_rfl | rfl)
#print axioms PySem.Challenge.cw_lostweights_k61_whole_tales_holds
