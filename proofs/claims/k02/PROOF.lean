import PyProof.Rows.All
import Wide.All
import OpenK.AllK
import Wide.FinOn
import HandS.SetFor
import HandS.Strs
import HandS.RaiseMore
import HandS.ForMost
import HandS.Flow
import HandS.Property
import HandS.FStr
import HandS.Conv
import HandS.Defaults
import HandS.MakeKw
import HandS.Zip
import HandS.Wide
import HandS.SortInts
import HandS.TupAny
import HandS.IsInst
import HandS.Star
import HandS.Style
import HandS.Deep
import HandS.CallSlots
import HandS.ExcInit
import HandS.WordsExc
import HandS.Small
import HandS.DictComp
import HandS.TryOnly
import HandS.TryMany
import PyProof.ReprRoads
import KE.DataMinMax
import HandS.Ends
import KE.KFmtOwn
import OpenK.KOps
import PyProof.InstEq
import KE.KCallOwn
import KE.GoesMore
import PyProof.LongRange
import KE.KStateDown
import HandS.Head0
import HandS.Head1
import HandS.Head2
import HandS.HeadEnd
import HandS.HeadHook1
import HandS.HeadHook2
import HandS.HeadHook4
import PyProof.StrLawsTight
import PyProof.StrLawsChain
import PyProof.ReprBulk
import PySem.Challenge.RW_canwalks_k02_gardens_made
set_option Elab.async false
set_option linter.all false
set_option maxRecDepth 100000
set_option maxHeartbeats 3200000
/-! Mp, part S0: the set of a list of ints, sorted; a list's every k-th element. -/
namespace Mp
open PySem PySem.Spec L2 PyProof.Rows
section
variable {P : Program} {w : World} {A : Around} {E : Value → Shared → Prop} {s : Shared}
/-- what stands when a set has been made from a list -/
def FromL (w : World) (s : Shared) (ns : List Int) (s' : Shared) : Prop := ∃ h' tk c, s' = { s with heap := h', toks := tk } ∧ SetR w h' s.heap.objs.size (fun j => decide (j ∈ ns)) c ∧ c ≤ ns.length ∧ ∀ b o, s.heap.get? b = some o → h'.get? b = some o
abbrev bareS (w : World) : Obj := { cls := .type "set", dict := none, data := .set #[] 0 (.fresh 0 0 (!w.params.followText "set-order")) }
theorem set_of_list {l : Addr} {items : Array Value} {ns : List Int} {Q : Value → Shared → Prop} (hh : A.handled = none) (hl : s.heap.IsList l items) (hit : IntsAre items.toList ns) (hb : ns.length + 1 < scanBound)
    (h : ∀ s', FromL w s ns s' → Q (.ref s.heap.objs.size) s') : wpAny (model P w) A (call (.type "set") [.ref l]) Q E s := by
  obtain ⟨c, tl, hmro⟩ := F.called_set.mro
  have m1 := F.called_set.made
  have m2 := F.called_set.sub
  have m3 := F.called_set.notType
  have m4 := F.called_set.canCreate
  have m5 := F.typeCall_set_1 (.ref l)
  refine wpAny_call (codeAny_of_tree ?_)
  show wpAny _ _ (callAny (.type "set") _) _ _ _
  refine wpAny_pure ⟨Code.quiet_builtin _ (by decide +kernel), codeAny_builtin F.entry_type_call ?_⟩
  rw [Around.under_plain (weight_type_call_type "set" [.ref l] []) rfl]
  repeat (any_goals (first | assumption | wp_step))
  refine codeAny_mono (code_set_led1 (.ref l) (E := E) (Q₁ := fun v s₁ => v = .ref s.heap.objs.size ∧ s₁ = { s with heap := s.heap.push (bareS w) }) ⟨rfl, rfl⟩) ?_
  rintro (e | fl) s₁ hr
  · exact hr
  cases fl with
  | ret v =>
    obtain ⟨rfl, rfl⟩ := hr
    have hS : (s.heap.push (bareS w)).get? s.heap.objs.size = some (bareS w) := Heap.get?_push_size _ rfl
    have hT : Shared.TypeIs { s with heap := s.heap.push (bareS w) } (.ref s.heap.objs.size) "set" := ⟨_, hS, rfl⟩
    have n1 := F.called_set.init.lookup
    have n2 := F.called_set.init.bind (.ref s.heap.objs.size)
    repeat (any_goals (first | assumption | wp_step))
    refine codeAny_mono (codeAny_call_builtin (R := wants (fun r s₂ => r = .none ∧ FromL w s ns s₂) E) F.called_set.init.plain F.entry_set_init (check_set_init_1 hT ?_)) ?_
    · have hlen : items.size = ns.length := by
        rw [← Array.length_toList]
        exact IntsAre.length hit
      obtain ⟨⟨cls, dic, dat, slt⟩, hol, e1, nl, e2⟩ := id hl
      simp only at e1 e2
      subst e1; subst e2
      have hol' : (s.heap.push (bareS w)).get? l = some { cls := .type "list", dict := dic, data := .seq items nl, slots := slt } := Heap.get?_push_of_some _ hol
      have hl1 : (s.heap.push (bareS w)).IsList l items := ⟨_, hol', rfl, nl, rfl⟩
      have k1 := F.sub_list_set
      have k2 := F.sub_list_frozenset
      have k3 : (Value.type "list" == Value.type "dict") = false := by decide
      unfold Builtin.«set.__init__» noKeywords Builtin.Frozenset.updateFrom
      generalize hPI : pyIter = PI
      wp_walk
      subst hPI
      refine wpAny_pyIter_list hl1 (wpAny_bind (wpAny_runValue ?_))
      have hlS : l < s.heap.objs.size := Heap.lt_size hol
      have hsz : (s.heap.push (bareS w)).objs.size = s.heap.objs.size + 1 := Heap.size_push ..
      refine set_update_ints ((Walks.list (show A.in1.in1.in1.handled = none by simp [hh]) _ l (by rw [hsz]; exact Nat.ne_of_lt (Nat.lt_succ_of_lt hlS)) items).toS) s.heap.objs.size
        (by
          show s.heap.objs.size ∉ [(s.heap.push (bareS w)).objs.size, l]
          simp only [List.mem_cons, List.not_mem_nil, or_false, not_or]
          rw [hsz]
          exact ⟨Nat.ne_of_lt (Nat.lt_succ_self _), Nat.ne_of_gt hlS⟩)
        ns hlen hb (fun i v hv => ?_) (items.size - 0) 0 _ (by omega) (Nat.zero_le _) ⟨⟨_, Heap.get?_push_size _ rfl, rfl, rfl⟩, hl1.push _⟩
        ⟨0, Nat.le_refl 0, setR_new_at (Heap.get?_push_of_some _ hS)⟩ ?_
      · have hi : i < ns.length := by
          rw [← hlen]
          exact (Array.getElem?_eq_some_iff.mp hv).1
        obtain ⟨t, e⟩ := IntsAre.int_at hit i v (by rw [Array.getElem?_toList]; exact hv)
        exact ⟨ns[i], t, List.getElem?_eq_getElem hi, by rw [e, List.getD_eq_getElem?_getD, List.getElem?_eq_getElem hi]; rfl⟩
      · rintro ⟨h', g2, d', tk', os'⟩ c' hm hc' hS'
        obtain rfl : g2 = s.gens := hm.gens
        obtain rfl : d' = s.drawn := hm.drawn
        obtain rfl : os' = s.os := hm.os
        show wpAny _ _ _ _ _ _
        refine wpAny_pure ?_
        show wpAny _ _ (ret Value.none) _ _ _
        refine wpAny_pure ⟨rfl, h', tk', c', rfl, hS', by omega, fun b o e => hm.heap b o ?_ (Heap.get?_push_of_some _ (Heap.get?_push_of_some _ e))⟩
        have := Heap.lt_size e
        simp only [List.mem_cons, List.not_mem_nil, or_false, not_or]
        show b ≠ s.heap.objs.size ∧ b ≠ (s.heap.push (bareS w)).objs.size
        rw [hsz]
        exact ⟨Nat.ne_of_lt this, Nat.ne_of_lt (Nat.lt_succ_of_lt this)⟩
    · rintro (e | fl₂) s₂ hr₂
      · exact hr₂
      cases fl₂ with
      | ret r =>
        obtain ⟨rfl, hF⟩ := hr₂
        repeat (any_goals (first | assumption | wp_step))
        exact h _ hF
      | _ => exact hr₂.elim
  | _ => exact hr.elim
end
section
variable {X : Cx}
/-- set(xs), xs a list of ints -/
def rSetL (K : PySem.W.Frag) (w : World) : List V → Hp → VK → Prop := fun xs H Q => ∃ (a : Addr) (ns : List Int), xs = [V.ref a] ∧ SqL K H a (ns.map V.int) ∧ ns.length < 64 ∧
  ∀ (p : Addr) (c : Nat), c ≤ ns.length → H p = none → Q (.ref p) (upd H p (SetO w p (fun j => decide (j ∈ ns)) c))
theorem cr_setL (hc : X.calm = true) : CallR X (.type "set") (rSetL X.K X.w) := by
  intro pins s σ H vs us Q I r h
  obtain ⟨a, ns, rfl, hs, h64, q⟩ := h
  rw [Vals.ref1 r]
  obtain ⟨its, rv, hl, hz⟩ := I.list hs
  refine set_of_list (ns := ns) (I.ok.hd hc) hl.isList (by simpa using rv.ints) (by unfold scanBound; omega) ?_
  rintro s' ⟨h', tk, c, rfl, hS, hc', hk⟩
  exact ⟨.ref _, _, I.laid (t' := tk) hk (Nat.le_refl _) (setO_new hS), rfl, q _ c hc' (I.hok.fresh (Nat.le_refl _))⟩
theorem pe_sset {e : Expr} {te : TE} {p1 p2 p3 p4 : Pos} (hc : X.calm = true) (g1 : Gl X "sorted") (m1 : X.mg "sorted" = none) (g2 : Gl X "set") (m2 : X.mg "set" = none) (he : PE X e te)
    (na : starEach [e] X.env = (false, eval e X.env) :: starEach [] X.env := by rfl) :
    PE X (.Call (.Name "sorted" p1) [.Call (.Name "set" p2) [e] [] p3] [] p4) (tCB (rSortedSet X.w) (tCons (tCB (rSetL X.K X.w) (tCons te tNil)) tNil)) :=
  pe_callB (cr_sortedSet hc) g1 m1 (by rfl) (pa_cons (pe_callTy (cr_setL hc) g2 m2 (by rfl) (pa_cons he pa_nil na) (by decide +kernel) (by decide +kernel) na) pa_nil) (by decide +kernel) (by decide +kernel)
theorem sset_of {w : World} {K : PySem.W.Frag} {a : Addr} {ns : List Int} {H : Hp} {Q : VK} (ha : SqL K H a (ns.map V.int)) (h64 : ns.length < 64)
    (q : ∀ (p p2 : Addr) (o : HO) (ms : List Int), ms.Pairwise (· < ·) → (∀ k : Int, k ∈ ms ↔ k ∈ ns) → ms.length ≤ ns.length → H p = none → upd H p o p2 = none → Q (.ref p2) (upd (upd H p o) p2 (.lst (ms.map V.int)))) :
    rSetL K w [.ref a] H fun y H2 => rSortedSet w [y] H2 Q := by
  refine ⟨a, ns, rfl, ha, h64, fun p c hc hp => ⟨p, _, c, rfl, upd_same, by omega, fun ms p2 h1 h2 h3 h4 => ?_⟩⟩
  exact q p p2 _ ms h1 (fun k => by rw [h2 k, decide_eq_true_eq]) (by omega) hp h4
end

/-! ### xs[::k] -/
def stepIx (n k : Nat) : List Nat := (List.range ((n + k - 1) / k)).map fun j => k * j
def stepL {α : Type} (xs : List α) (k : Nat) : List α := (stepIx xs.length k).filterMap (xs[·]?)
theorem ceil_le (m : Nat) {k : Nat} (hk : 0 < k) : (m + k - 1) / k ≤ m := by
  cases m with
  | zero => rw [Nat.div_eq_of_lt (by omega)]; exact Nat.le_refl _
  | succ m =>
    refine Nat.div_le_of_le_mul ?_
    have := Nat.le_mul_of_pos_left m hk
    rw [Nat.mul_succ]
    omega
theorem stepL_map {α β : Type} (f : α → β) (xs : List α) (k : Nat) : stepL (xs.map f) k = (stepL xs k).map f := by
  unfold stepL
  rw [List.length_map, List.map_filterMap]
  refine congrArg (fun g => List.filterMap g (stepIx xs.length k)) (funext fun j => ?_)
  rw [List.getElem?_map]
theorem stepL_len {α : Type} (xs : List α) (k : Nat) : (stepL xs k).length ≤ (xs.length + k - 1) / k := by
  refine Nat.le_trans (List.length_filterMap_le ..) ?_
  unfold stepIx
  rw [List.length_map, List.length_range]
  exact Nat.le_refl _
theorem range_step (n : Nat) {k : Nat} (hk : 0 < k) : sliceRange 0 (n : Int) (k : Int) = stepIx n k := by
  unfold sliceRange stepIx
  rw [if_pos (show ((k : Nat) : Int) > 0 by omega)]
  have e : (if (0 : Int) < (n : Int) then ((n : Int) - 0 + (k : Int) - 1) / (k : Int) else 0).toNat = (n + k - 1) / k := by
    by_cases hn : 0 < n
    · rw [if_pos (by omega), show ((n : Int) - 0 + (k : Int) - 1) = ((n + k - 1 : Nat) : Int) by omega, ← Int.natCast_ediv, Int.toNat_natCast]
    · rw [if_neg (by omega)]
      obtain rfl : n = 0 := by omega
      rw [Nat.div_eq_of_lt (by omega)]
      rfl
  dsimp only
  rw [e]
  refine List.map_congr_left fun j _ => ?_
  rw [show (0 : Int) + (k : Int) * (j : Int) = ((k * j : Nat) : Int) by rw [Int.natCast_mul]; omega, Int.toNat_natCast]
theorem pick_step (its : List Value) {k : Nat} (hk : 0 < k) : slicePick its.toArray none none (some (k : Int)) = (stepL its k).toArray := by
  unfold slicePick stepL
  have b : sliceBounds none none (some (k : Int)) its.toArray.size = ((0 : Int), (its.length : Int), (k : Int)) := by
    unfold sliceBounds
    simp only [Option.getD_some, List.size_toArray]
    rw [if_pos (by omega), if_pos (by omega)]
  rw [b, range_step _ hk]
  congr 1
  refine congrArg (fun g => List.filterMap g (stepIx its.length k)) (funext fun j => ?_)
  simp
theorem vals_pick {xs : List V} {us : List Value} (r : Vals xs us) : ∀ js : List Nat, Vals (js.filterMap (xs[·]?)) (js.filterMap (us[·]?))
  | [] => .nil
  | j :: js => by
    cases h : xs[j]? with
    | none =>
      have h2 : us[j]? = none := by
        rw [List.getElem?_eq_none_iff] at h ⊢
        rw [← r.length]
        exact h
      rw [List.filterMap_cons_none h, List.filterMap_cons_none h2]
      exact vals_pick r js
    | some x =>
      obtain ⟨u, h2, e⟩ := r.get h
      rw [List.filterMap_cons_some h, List.filterMap_cons_some h2]
      exact .cons e (vals_pick r js)
section
variable {X : Cx}
def stepR (K : PySem.W.Frag) (x : V) (Q : VK) (o : Option Int) (H : Hp) : Prop := ∃ a xs, ∃ k : Nat, x = .ref a ∧ o = some (k : Int) ∧ 0 < k ∧ SqL K H a xs ∧ ∀ p, H p = none → Q (.ref p) (upd H p (.lst (stepL xs k)))
def tStepL (K : PySem.W.Frag) (te tk : TE) : TE := fun σ H Q => te σ H fun x H1 => tPart tk σ H1 (stepR K x Q)
theorem pe_stepL {e k : Expr} {te tk : TE} {p3 pos : Pos} (he : PE X e te) (hk : PE X k tk) : PE X (.Subscript e (.Slice none none (some k) p3) pos) (tStepL X.K te tk) := by
  refine ⟨fun pins s σ H Q I h => ?_⟩
  refine Subscript_ (thn (he.run pins s σ H _ I h) fun v s1 ⟨x, H1, I1, r1, q1⟩ => ?_)
  refine wpAny_Slice (thn (po_none.run pins s1 σ H1 (fun o H2 => o = none ∧ H2 = H1) I1 ⟨rfl, rfl⟩) fun vl s2 ⟨l, H2, I2, pl, el, e2⟩ => ?_)
  subst el e2
  refine thn (po_none.run pins s2 σ H2 (fun o H3 => o = none ∧ H3 = H2) I2 ⟨rfl, rfl⟩) fun vu s3 ⟨u, H3, I3, pu, eu, e3⟩ => ?_
  subst eu e3
  refine thn ((po_some hk).run pins s3 σ H3 _ I3 q1) fun vs s4 ⟨o, H4, I4, ps, a, xs, n, ex, eo, n0, hx, q⟩ => ?_
  subst eo ex
  cases r1
  have I5 : Inv X pins σ H4 { s4 with heap := s4.heap.push { cls := .type "slice", data := .fields #[vl, vu, vs] } } := I4.kept (t' := s4.toks) fun b ob q => Heap.get?_push_of_some _ q
  obtain ⟨its, r, ht, hz⟩ := I5.list hx
  have hlen := r.length
  refine tail_any (ops := [.ref a, .ref s4.heap.objs.size]) ht.isList.typeIs (PySem.slot_list_getitem.lookup) ?_ (by with_unfolding_all rfl)
  refine wpAny_getItem_list_slice ht.isList (Heap.IsSliceOf.new _ vl vu vs) pl pu ps (fun z => by injection z with z; omega) ?_ (by rw [List.size_toArray]; omega)
  rw [pick_step _ n0]
  refine ⟨.ref _, _, I5.laid (t' := s4.toks) (o := .lst (stepL xs n)) (fun b ob q => Heap.get?_push_of_some _ q) (Nat.le_refl _) ?_, rfl, q _ (I5.hok.fresh (Nat.le_refl _))⟩
  refine ⟨?_, _, 0, ?_, Heap.get?_push_size _ rfl⟩
  · refine Nat.le_trans (stepL_len xs n) (Nat.le_trans ?_ hz)
    exact ceil_le xs.length n0
  · unfold stepL
    rw [hlen]
    exact vals_pick r _
end
end Mp

set_option Elab.async false
set_option linter.all false
set_option maxRecDepth 100000
set_option maxHeartbeats 4000000
/-! Mp, part A: plain data, how it lies in the abstract heap, how a step keeps it. -/
namespace Mp
open PySem PySem.Spec L2

/-- plain data: trees; scr: the script; ref: something that may change, or a thing of the module -/
inductive D where
  | non | bl (b : Bool) | int (i : Int) | str (x : Str) | ty (n : String) | ref (a : Addr)
  | scr (ns : List Int)
  | tup (ds : List D) | lst (ds : List D) | dct (ks : List Key) (ds : List D) | ins (c : Nat) (ds : List D)
/-- what changes: a list, a dict, an instance, of plain data -/
inductive CO where
  | lst (ds : List D) | dct (ks : List Key) (ds : List D) | ins (c : Nat) (ds : List D)
abbrev Cs := Addr → Option CO
def cset (C : Cs) (a : Addr) (o : CO) : Cs := fun b => if b = a then some o else C b
def cdel (C : Cs) (a : Addr) : Cs := fun b => if b = a then none else C b
theorem cset_same {C : Cs} {a : Addr} {o : CO} : cset C a o a = some o := if_pos rfl
theorem cset_ne {C : Cs} {a b : Addr} {o : CO} (h : b ≠ a) : cset C a o b = C b := if_neg h
theorem cset_cset {C : Cs} {a : Addr} {o u : CO} : cset (cset C a o) a u = cset C a u := by
  funext b; unfold cset; split <;> rfl
theorem cdel_same {C : Cs} {a : Addr} : cdel C a a = none := if_pos rfl
theorem cdel_ne {C : Cs} {a b : Addr} (h : b ≠ a) : cdel C a b = C b := if_neg h
theorem cdel_cset {C : Cs} {a : Addr} {o : CO} (h : C a = none) : cdel (cset C a o) a = C := by
  funext b; unfold cdel cset
  split
  · rename_i e; rw [e, h]
  · rfl
theorem cset_comm {C : Cs} {a b : Addr} {o u : CO} (h : a ≠ b) : cset (cset C a o) b u = cset (cset C b u) a o := by
  funext c; unfold cset
  split
  · rename_i e; subst e
    rw [if_neg (Ne.symm h)]
  · rfl

/-- what is fixed through the law: the written part, the module's names, where a class stands and its fields in the order of their making, where a def stands -/
structure Tb where
  K : PySem.W.Frag
  mg : Str → Option Value
  cl : Nat → Addr
  fl : Nat → List Str
  fa : Nat → Addr
  fd : Nat → FuncData

mutual
def Rep (T : Tb) (G : Hp) : D → V → Prop
  | .non, v => v = .non
  | .bl b, v => v = .bl b
  | .int i, v => v = .int i
  | .str x, v => v = .str x
  | .ty n, v => v = .ty n
  | .ref a, v => v = .ref a
  | .tup ds, v => ∃ a vs, v = .ref a ∧ SqT T.K G a vs ∧ Reps T G ds vs
  | .scr ns, v => ∃ a, v = .ref a ∧ SqL T.K G a (ns.map V.int)
  | .lst ds, v => ∃ a vs, v = .ref a ∧ G a = some (.lst vs) ∧ Reps T G ds vs
  | .dct ks ds, v => ∃ a kvs, v = .ref a ∧ G a = some (.dK kvs) ∧ kvs.map (·.1) = ks ∧ Reps T G ds (kvs.map (·.2))
  | .ins c ds, v => ∃ a dx fs, v = .ref a ∧ G a = some (.ins (T.cl c) dx fs) ∧ fs.map (·.1) = (T.fl c).take ds.length ∧ Reps T G ds (fs.map (·.2))
def Reps (T : Tb) (G : Hp) : List D → List V → Prop
  | [], vs => vs = []
  | d :: ds, vs => ∃ v r, vs = v :: r ∧ Rep T G d v ∧ Reps T G ds r
end

theorem sqt_up {K : PySem.W.Frag} {G G' : Hp} {a : Addr} {xs : List V} (e : Same G G') (h : SqT K G a xs) : SqT K G' a xs := by
  rcases h with (h | ⟨o, h⟩) | h
  · exact .inl (.inl (e _ _ h))
  · exact .inl (.inr ⟨o, e _ _ h⟩)
  · exact .inr h
mutual
theorem Rep.up {T : Tb} {G G' : Hp} (e : Same G G') : ∀ (d : D) (v : V), Rep T G d v → Rep T G' d v
  | .non, _, h => h
  | .bl _, _, h => h
  | .int _, _, h => h
  | .str _, _, h => h
  | .ty _, _, h => h
  | .ref _, _, h => h
  | .tup ds, v, h => by
    obtain ⟨a, vs, h1, h2, h3⟩ := h
    exact ⟨a, vs, h1, sqt_up e h2, Reps.up e ds vs h3⟩
  | .scr ns, v, h => by
    obtain ⟨a, h1, h2⟩ := h
    exact ⟨a, h1, e.seq h2⟩
  | .lst ds, v, h => by
    obtain ⟨a, vs, h1, h2, h3⟩ := h
    exact ⟨a, vs, h1, e _ _ h2, Reps.up e ds vs h3⟩
  | .dct ks ds, v, h => by
    obtain ⟨a, kvs, h1, h2, h3, h4⟩ := h
    exact ⟨a, kvs, h1, e _ _ h2, h3, Reps.up e ds _ h4⟩
  | .ins c ds, v, h => by
    obtain ⟨a, dx, fs, h1, h2, h3, h4⟩ := h
    exact ⟨a, dx, fs, h1, e _ _ h2, h3, Reps.up e ds _ h4⟩
theorem Reps.up {T : Tb} {G G' : Hp} (e : Same G G') : ∀ (ds : List D) (vs : List V), Reps T G ds vs → Reps T G' ds vs
  | [], _, h => h
  | d :: ds, vs, h => by
    obtain ⟨v, r, h1, h2, h3⟩ := h
    exact ⟨v, r, h1, Rep.up e d v h2, Reps.up e ds r h3⟩
end

section
variable {T : Tb} {G : Hp}
theorem Reps.nil : Reps T G [] [] := rfl
theorem Reps.cons {d : D} {ds : List D} {v : V} {vs : List V} (h : Rep T G d v) (t : Reps T G ds vs) : Reps T G (d :: ds) (v :: vs) := ⟨v, vs, rfl, h, t⟩
theorem Reps.len : ∀ {ds : List D} {vs : List V}, Reps T G ds vs → vs.length = ds.length
  | [], _, h => by rw [show _ = [] from h]; rfl
  | d :: ds, vs, h => by
    obtain ⟨v, r, rfl, _, h3⟩ := h
    rw [List.length_cons, List.length_cons, Reps.len h3]
theorem Reps.app : ∀ {ds es : List D} {vs ws : List V}, Reps T G ds vs → Reps T G es ws → Reps T G (ds ++ es) (vs ++ ws)
  | [], _, _, _, h, k => by rw [show _ = [] from h]; exact k
  | d :: ds, es, vs, ws, h, k => by
    obtain ⟨v, r, rfl, h2, h3⟩ := h
    exact ⟨v, r ++ ws, rfl, h2, Reps.app h3 k⟩
theorem Reps.get : ∀ {ds : List D} {vs : List V} {i : Nat} {d : D}, Reps T G ds vs → ds[i]? = some d → ∃ v, vs[i]? = some v ∧ Rep T G d v
  | [], _, _, _, _, e => by simp at e
  | d :: ds, _, 0, x, h, e => by
    obtain ⟨v, r, rfl, h2, h3⟩ := h
    simp at e; subst e
    exact ⟨v, rfl, h2⟩
  | d :: ds, _, i + 1, x, h, e => by
    obtain ⟨v, r, rfl, h2, h3⟩ := h
    obtain ⟨u, e1, e2⟩ := Reps.get (i := i) (d := x) h3 (by simpa using e)
    exact ⟨u, by simpa using e1, e2⟩
theorem Reps.getV : ∀ {ds : List D} {vs : List V} {i : Nat} {v : V}, Reps T G ds vs → vs[i]? = some v → ∃ d, ds[i]? = some d ∧ Rep T G d v
  | [], _, _, _, h, e => by rw [show _ = [] from h] at e; simp at e
  | d :: ds, _, 0, x, h, e => by
    obtain ⟨v, r, rfl, h2, h3⟩ := h
    simp at e; subst e
    exact ⟨d, rfl, h2⟩
  | d :: ds, _, i + 1, x, h, e => by
    obtain ⟨v, r, rfl, h2, h3⟩ := h
    obtain ⟨u, e1, e2⟩ := Reps.getV (i := i) (v := x) h3 (by simpa using e)
    exact ⟨u, by simpa using e1, e2⟩
theorem Reps.take : ∀ {ds : List D} {vs : List V} (n : Nat), Reps T G ds vs → Reps T G (ds.take n) (vs.take n)
  | [], _, n, h => by rw [show _ = [] from h]; simp; exact rfl
  | d :: ds, _, 0, h => rfl
  | d :: ds, _, n + 1, h => by
    obtain ⟨v, r, rfl, h2, h3⟩ := h
    exact ⟨v, r.take n, rfl, h2, Reps.take n h3⟩
theorem Reps.drop : ∀ {ds : List D} {vs : List V} (n : Nat), Reps T G ds vs → Reps T G (ds.drop n) (vs.drop n)
  | [], _, n, h => by rw [show _ = [] from h]; simp; exact rfl
  | d :: ds, _, 0, h => h
  | d :: ds, _, n + 1, h => by
    obtain ⟨v, r, rfl, h2, h3⟩ := h
    exact Reps.drop n h3
theorem Reps.pick {ds : List D} {vs : List V} (h : Reps T G ds vs) : ∀ js : List Nat, Reps T G (js.filterMap (ds[·]?)) (js.filterMap (vs[·]?))
  | [] => Reps.nil
  | j :: js => by
    cases e : ds[j]? with
    | none =>
      have e2 : vs[j]? = none := by
        rw [List.getElem?_eq_none_iff] at e ⊢
        rw [h.len]
        exact e
      rw [List.filterMap_cons_none e, List.filterMap_cons_none e2]
      exact Reps.pick h js
    | some d =>
      obtain ⟨v, e2, r⟩ := h.get e
      rw [List.filterMap_cons_some e, List.filterMap_cons_some e2]
      exact Reps.cons r (Reps.pick h js)
theorem Reps.set : ∀ {ds : List D} {vs : List V} {d : D} {v : V} (i : Nat), Reps T G ds vs → Rep T G d v → Reps T G (ds.set i d) (vs.set i v)
  | [], _, _, _, i, h, _ => by rw [show _ = [] from h]; exact rfl
  | d :: ds, _, _, _, 0, h, k => by
    obtain ⟨v, r, rfl, h2, h3⟩ := h
    exact ⟨_, r, rfl, k, h3⟩
  | d :: ds, _, _, _, i + 1, h, k => by
    obtain ⟨v, r, rfl, h2, h3⟩ := h
    exact ⟨v, r.set i _, rfl, h2, Reps.set i h3 k⟩
theorem Reps.rep (n : Nat) {ds : List D} {vs : List V} (h : Reps T G ds vs) : Reps T G (List.replicate n ds).flatten (List.replicate n vs).flatten := by
  induction n with
  | zero => exact rfl
  | succ n ih =>
    rw [List.replicate_succ, List.replicate_succ, List.flatten_cons, List.flatten_cons]
    exact h.app ih
theorem Reps.rev : ∀ {ds : List D} {vs : List V}, Reps T G ds vs → Reps T G ds.reverse vs.reverse
  | [], _, h => by rw [show _ = [] from h]; exact rfl
  | d :: ds, _, h => by
    obtain ⟨v, r, rfl, h2, h3⟩ := h
    rw [List.reverse_cons, List.reverse_cons]
    exact (Reps.rev h3).app (Reps.cons h2 Reps.nil)
theorem Reps.ints : ∀ {ns : List Int} {vs : List V}, Reps T G (ns.map D.int) vs → vs = ns.map V.int
  | [], _, h => h
  | n :: ns, _, h => by
    obtain ⟨v, r, rfl, h2, h3⟩ := h
    rw [show v = V.int n from h2, Reps.ints h3, List.map_cons]
theorem Reps.ofInts : ∀ (ns : List Int), Reps T G (ns.map D.int) (ns.map V.int)
  | [] => rfl
  | n :: ns => ⟨_, _, rfl, rfl, Reps.ofInts ns⟩
theorem Reps.strs : ∀ {ns : List Str} {vs : List V}, Reps T G (ns.map D.str) vs → vs = ns.map V.str
  | [], _, h => h
  | n :: ns, _, h => by
    obtain ⟨v, r, rfl, h2, h3⟩ := h
    rw [show v = V.str n from h2, Reps.strs h3, List.map_cons]
theorem Reps.ofStrs : ∀ (ns : List Str), Reps T G (ns.map D.str) (ns.map V.str)
  | [] => rfl
  | n :: ns => ⟨_, _, rfl, rfl, Reps.ofStrs ns⟩
theorem Reps.bls : ∀ {ns : List Bool} {vs : List V}, Reps T G (ns.map D.bl) vs → vs = ns.map V.bl
  | [], _, h => h
  | n :: ns, _, h => by
    obtain ⟨v, r, rfl, h2, h3⟩ := h
    rw [show v = V.bl n from h2, Reps.bls h3, List.map_cons]
end

/-- a changing thing as it lies -/
def RepO (T : Tb) (G : Hp) : CO → HO → Prop
  | .lst ds, o => ∃ vs, o = .lst vs ∧ Reps T G ds vs
  | .dct ks ds, o => ∃ kvs, o = .dK kvs ∧ kvs.map (·.1) = ks ∧ Reps T G ds (kvs.map (·.2))
  | .ins c ds, o => ∃ dx fs, o = .ins (T.cl c) dx fs ∧ fs.map (·.1) = (T.fl c).take ds.length ∧ Reps T G ds (fs.map (·.2))
theorem RepO.up {T : Tb} {G G' : Hp} (e : Same G G') : ∀ {co : CO} {o : HO}, RepO T G co o → RepO T G' co o
  | .lst ds, o, ⟨vs, h1, h2⟩ => ⟨vs, h1, Reps.up e _ _ h2⟩
  | .dct ks ds, o, ⟨kvs, h1, h2, h3⟩ => ⟨kvs, h1, h2, Reps.up e _ _ h3⟩
  | .ins c ds, o, ⟨dx, fs, h1, h2, h3⟩ => ⟨dx, fs, h1, h2, Reps.up e _ _ h3⟩

/-- G: what stands for ever; H: all that is tracked; C: what may change -/
structure Rel (T : Tb) (G H : Hp) (C : Cs) : Prop where
  sub : Same G H
  cel : ∀ a co, C a = some co → G a = none ∧ ∃ o, H a = some o ∧ RepO T G co o
/-- what a step keeps: all that stands, and all that is no changing thing -/
structure Fr (G H : Hp) (C : Cs) (G' H' : Hp) (C' : Cs) : Prop where
  up : Same G G'
  kp : ∀ a o, H a = some o → C a = none → H' a = some o ∧ G' a = G a ∧ C' a = none
theorem Fr.refl {G H : Hp} {C : Cs} : Fr G H C G H C := ⟨Same.refl _, fun _ _ h n => ⟨h, rfl, n⟩⟩
theorem Fr.trans {G H G1 H1 G2 H2 : Hp} {C C1 C2 : Cs} (a : Fr G H C G1 H1 C1) (b : Fr G1 H1 C1 G2 H2 C2) : Fr G H C G2 H2 C2 :=
  ⟨a.up.trans b.up, fun x o h n => by
    obtain ⟨h1, g1, c1⟩ := a.kp x o h n
    obtain ⟨h2, g2, c2⟩ := b.kp x o h1 c1
    exact ⟨h2, g2.trans g1, c2⟩⟩

section
variable {T : Tb} {G H : Hp} {C : Cs} {p a : Addr} {o : HO} {co : CO}
theorem Rel.fresh (r : Rel T G H C) (hp : H p = none) : G p = none ∧ C p = none := by
  refine ⟨?_, ?_⟩
  · cases q : G p with
    | none => rfl
    | some u => rw [r.sub _ _ q] at hp; cases hp
  · cases q : C p with
    | none => rfl
    | some u =>
      obtain ⟨_, o, h, _⟩ := r.cel _ _ q
      rw [h] at hp; cases hp
theorem Rel.free (r : Rel T G H C) (h : G a = some o) : C a = none := by
  cases q : C a with
  | none => rfl
  | some u =>
    obtain ⟨h1, _⟩ := r.cel _ _ q
    rw [h] at h1; cases h1
theorem same_upd (hp : G p = none) : Same G (upd G p o) := fun b u e => by rw [upd_ne (ne_of_none e hp)]; exact e
/-- a new thing that stands for ever -/
theorem Rel.lay (r : Rel T G H C) (hp : H p = none) : Rel T (upd G p o) (upd H p o) C ∧ Fr G H C (upd G p o) (upd H p o) C := by
  obtain ⟨hg, hc⟩ := r.fresh hp
  refine ⟨⟨fun b u e => ?_, fun b co e => ?_⟩, same_upd hg, fun b u e n => ?_⟩
  · by_cases hb : b = p
    · subst hb; rw [upd_same] at e ⊢; exact e
    · rw [upd_ne hb] at e ⊢; exact r.sub _ _ e
  · have hb : b ≠ p := fun z => by rw [z, hc] at e; cases e
    obtain ⟨h1, u, h2, h3⟩ := r.cel _ _ e
    exact ⟨by rw [upd_ne hb]; exact h1, u, by rw [upd_ne hb]; exact h2, h3.up (same_upd hg)⟩
  · have hb : b ≠ p := ne_of_none e hp
    exact ⟨by rw [upd_ne hb]; exact e, by rw [upd_ne hb], n⟩
/-- a new thing of no account (an instance's own dict) -/
theorem Rel.add (r : Rel T G H C) (hp : H p = none) : Rel T G (upd H p o) C ∧ Fr G H C G (upd H p o) C := by
  obtain ⟨hg, hc⟩ := r.fresh hp
  refine ⟨⟨fun b u e => ?_, fun b co e => ?_⟩, Same.refl _, fun b u e n => ?_⟩
  · rw [upd_ne (ne_of_none e hg)]; exact r.sub _ _ e
  · have hb : b ≠ p := fun z => by rw [z, hc] at e; cases e
    obtain ⟨h1, u, h2, h3⟩ := r.cel _ _ e
    exact ⟨h1, u, by rw [upd_ne hb]; exact h2, h3⟩
  · exact ⟨by rw [upd_ne (ne_of_none e hp)]; exact e, rfl, n⟩
/-- a new thing that may change -/
theorem Rel.new (r : Rel T G H C) (hp : H p = none) (ho : RepO T G co o) : Rel T G (upd H p o) (cset C p co) ∧ Fr G H C G (upd H p o) (cset C p co) := by
  obtain ⟨hg, hc⟩ := r.fresh hp
  refine ⟨⟨fun b u e => ?_, fun b c e => ?_⟩, Same.refl _, fun b u e n => ?_⟩
  · rw [upd_ne (ne_of_none e hg)]; exact r.sub _ _ e
  · by_cases hb : b = p
    · subst hb
      rw [cset_same] at e; cases e
      exact ⟨hg, o, upd_same, ho⟩
    · rw [cset_ne hb] at e
      obtain ⟨h1, u, h2, h3⟩ := r.cel _ _ e
      exact ⟨h1, u, by rw [upd_ne hb]; exact h2, h3⟩
  · have hb : b ≠ p := ne_of_none e hp
    exact ⟨by rw [upd_ne hb]; exact e, rfl, by rw [cset_ne hb]; exact n⟩
/-- a changing thing is written -/
theorem Rel.put {c0 : CO} (r : Rel T G H C) (hc : C p = some c0) (ho : RepO T G co o) : Rel T G (upd H p o) (cset C p co) ∧ Fr G H C G (upd H p o) (cset C p co) := by
  obtain ⟨hg, _⟩ := r.cel _ _ hc
  refine ⟨⟨fun b u e => ?_, fun b c e => ?_⟩, Same.refl _, fun b u e n => ?_⟩
  · rw [upd_ne (ne_of_none e hg)]; exact r.sub _ _ e
  · by_cases hb : b = p
    · subst hb
      rw [cset_same] at e; cases e
      exact ⟨hg, o, upd_same, ho⟩
    · rw [cset_ne hb] at e
      obtain ⟨h1, u, h2, h3⟩ := r.cel _ _ e
      exact ⟨h1, u, by rw [upd_ne hb]; exact h2, h3⟩
  · have hb : b ≠ p := fun z => by rw [z, hc] at n; cases n
    exact ⟨by rw [upd_ne hb]; exact e, rfl, by rw [cset_ne hb]; exact n⟩
/-- what may change stands from now on -/
theorem Rel.frz {c0 : CO} (r : Rel T G H C) (hc : C p = some c0) (h : H p = some o) : Rel T (upd G p o) H (cdel C p) ∧ Fr G H C (upd G p o) H (cdel C p) := by
  obtain ⟨hg, _⟩ := r.cel _ _ hc
  refine ⟨⟨fun b u e => ?_, fun b c e => ?_⟩, same_upd hg, fun b u e n => ?_⟩
  · by_cases hb : b = p
    · subst hb; rw [upd_same] at e; cases e; exact h
    · rw [upd_ne hb] at e; exact r.sub _ _ e
  · by_cases hb : b = p
    · subst hb; rw [cdel_same] at e; cases e
    · rw [cdel_ne hb] at e
      obtain ⟨h1, u, h2, h3⟩ := r.cel _ _ e
      exact ⟨by rw [upd_ne hb]; exact h1, u, h2, h3.up (same_upd hg)⟩
  · have hb : b ≠ p := fun z => by rw [z, hc] at n; cases n
    exact ⟨e, by rw [upd_ne hb], by rw [cdel_ne hb]; exact n⟩
/-- changing things that nobody asks for any more -/
theorem Rel.drop {C' : Cs} (r : Rel T G H C) (h : ∀ a co, C' a = some co → C a = some co) : Rel T G H C' := ⟨r.sub, fun a co e => r.cel a co (h a co e)⟩
theorem Fr.drop {G' H' : Hp} {C' C'' : Cs} (f : Fr G H C G' H' C') (h : ∀ a co, C'' a = some co → C' a = some co) : Fr G H C G' H' C'' :=
  ⟨f.up, fun a o e n => by
    obtain ⟨h1, h2, h3⟩ := f.kp a o e n
    refine ⟨h1, h2, ?_⟩
    cases q : C'' a with
    | none => rfl
    | some u => rw [h _ _ q] at h3; cases h3⟩
end

/-! ### the names' values -/
abbrev Ro := List (Option D)
def SR (T : Tb) (G : Hp) (σ : L2.St) (ρ : Ro) : Prop := ∀ (i : Nat) (d : D), ρ[i]? = some (some d) → ∃ v, σ[i]? = some (some v) ∧ Rep T G d v
theorem SR.up {T : Tb} {G G' : Hp} {σ : St} {ρ : Ro} (h : SR T G σ ρ) (e : Same G G') : SR T G' σ ρ := fun i d q => by
  obtain ⟨v, h1, h2⟩ := h i d q
  exact ⟨v, h1, h2.up e⟩
theorem SR.set {T : Tb} {G : Hp} {σ : St} {ρ : Ro} {d : D} {v : V} (h : SR T G σ ρ) (i : Nat) (hl : ρ.length = σ.length) (r : Rep T G d v) : SR T G (σ.set i (some v)) (ρ.set i (some d)) := fun j e q => by
  by_cases hj : i = j
  · subst hj
    by_cases hi : i < ρ.length
    · rw [List.getElem?_set_self hi] at q
      cases q
      exact ⟨v, List.getElem?_set_self (by omega), r⟩
    · rw [List.getElem?_eq_none (by rw [List.length_set]; omega)] at q; cases q
  · rw [List.getElem?_set_ne hj] at q
    obtain ⟨u, h1, h2⟩ := h j e q
    exact ⟨u, by rw [List.getElem?_set_ne hj]; exact h1, h2⟩
/-- a slot's data is told anew -/
theorem SR.re {T : Tb} {G : Hp} {σ : St} {ρ : Ro} {d : D} {v : V} (h : SR T G σ ρ) (i : Nat) (hv : σ[i]? = some (some v)) (r : Rep T G d v) : SR T G σ (ρ.set i (some d)) := fun j e q => by
  by_cases hj : i = j
  · subst hj
    by_cases hi : i < ρ.length
    · rw [List.getElem?_set_self hi] at q
      cases q
      exact ⟨v, hv, r⟩
    · rw [List.getElem?_eq_none (by rw [List.length_set]; omega)] at q; cases q
  · rw [List.getElem?_set_ne hj] at q
    exact h j e q

/-- a changing thing as it stands -/
def view (C : Cs) : D → D
  | .ref a => match C a with
    | some (.lst ds) => .lst ds
    | some (.dct ks ds) => .dct ks ds
    | some (.ins c ds) => .ins c ds
    | none => .ref a
  | d => d
/-- data as it lies, its top among all that is tracked -/
def Top (T : Tb) (G H : Hp) : D → V → Prop
  | .non, v => v = .non
  | .bl b, v => v = .bl b
  | .int i, v => v = .int i
  | .str x, v => v = .str x
  | .ty n, v => v = .ty n
  | .ref a, v => v = .ref a
  | .tup ds, v => ∃ a vs, v = .ref a ∧ SqT T.K H a vs ∧ Reps T G ds vs
  | .scr ns, v => ∃ a, v = .ref a ∧ SqL T.K H a (ns.map V.int)
  | .lst ds, v => ∃ a vs, v = .ref a ∧ H a = some (.lst vs) ∧ Reps T G ds vs
  | .dct ks ds, v => ∃ a kvs, v = .ref a ∧ H a = some (.dK kvs) ∧ kvs.map (·.1) = ks ∧ Reps T G ds (kvs.map (·.2))
  | .ins c ds, v => ∃ a dx fs, v = .ref a ∧ H a = some (.ins (T.cl c) dx fs) ∧ fs.map (·.1) = (T.fl c).take ds.length ∧ Reps T G ds (fs.map (·.2))
theorem Rep.top {T : Tb} {G H : Hp} (e : Same G H) : ∀ {d : D} {v : V}, Rep T G d v → Top T G H d v
  | .non, _, h => h
  | .bl _, _, h => h
  | .int _, _, h => h
  | .str _, _, h => h
  | .ty _, _, h => h
  | .ref _, _, h => h
  | .tup ds, v, ⟨a, vs, h1, h2, h3⟩ => ⟨a, vs, h1, sqt_up e h2, h3⟩
  | .scr ns, v, ⟨a, h1, h2⟩ => ⟨a, h1, e.seq h2⟩
  | .lst ds, v, ⟨a, vs, h1, h2, h3⟩ => ⟨a, vs, h1, e _ _ h2, h3⟩
  | .dct ks ds, v, ⟨a, kvs, h1, h2, h3, h4⟩ => ⟨a, kvs, h1, e _ _ h2, h3, h4⟩
  | .ins c ds, v, ⟨a, dx, fs, h1, h2, h3, h4⟩ => ⟨a, dx, fs, h1, e _ _ h2, h3, h4⟩
theorem top_view {T : Tb} {G H : Hp} {C : Cs} (r : Rel T G H C) {d : D} {v : V} (h : Rep T G d v) : Top T G H (view C d) v := by
  cases d with
  | ref a =>
    obtain rfl : v = .ref a := h
    unfold view
    dsimp only
    cases q : C a with
    | none => exact rfl
    | some co =>
      obtain ⟨_, o, ho, hr⟩ := r.cel _ _ q
      cases co with
      | lst ds =>
        obtain ⟨vs, rfl, h2⟩ := hr
        exact ⟨a, vs, rfl, ho, h2⟩
      | dct ks ds =>
        obtain ⟨kvs, rfl, h2, h3⟩ := hr
        exact ⟨a, kvs, rfl, ho, h2, h3⟩
      | ins c ds =>
        obtain ⟨dx, fs, rfl, h2, h3⟩ := hr
        exact ⟨a, dx, fs, rfl, ho, h2, h3⟩
  | _ => exact Rep.top r.sub h
end Mp

set_option Elab.async false
set_option linter.all false
set_option maxRecDepth 100000
set_option maxHeartbeats 4000000
/-! Mp, part B: the small syntax and what is wanted of it (on plain data). -/
namespace Mp
open PySem PySem.Spec L2

structure Exc where
  c : Nat
  ds : List D
abbrev KE := D → Ro → Cs → Prop
abbrev KT := Bool → Ro → Cs → Prop
abbrev KL := List D → Ro → Cs → Prop
abbrev XD := Exc → Ro → Cs → Prop
abbrev Spec := List D → Cs → (D → Cs → Prop) → (Exc → Cs → Prop) → Prop
abbrev Specs := Nat → Spec

/-! ### the syntax -/
inductive MT where
  | nm (i : Nat)
  | tp (is : List Nat)
mutual
inductive ME where
  | var (i : Nat) (frz : Bool)
  | cst (c : Const)
  | gint (x : Str) (i : Int)
  | bin (op : Operator) (a b : ME)
  | neg (a : ME)
  | not (a : ME)
  | bo (op : BoolOp) (es : List ME)
  | cmp (op : CmpOp) (a b : ME)
  | chain (op op2 : CmpOp) (a b c : ME)
  | ite (t a b : ME)
  | tup (es : List ME)
  | lst (mu : Bool) (es : List ME)
  | star (e : ME)
  | fld (e : ME) (c : Nat) (i : Nat)
  | prop (e : ME) (c f : Nat)
  | call (f : Nat) (es : List ME) (nd : Nat)
  | callk (f : Nat) (es : List ME) (ks : List Str) (zs : List ME) (pm : List Nat)
  | make (mu : Bool) (c f : Nat) (es : List ME) (nd : Nat)
  | makek (mu : Bool) (c f : Nat) (es : List ME) (ks : List Str) (zs : List ME) (pm : List Nat)
  | meth (e : ME) (c f : Nat) (es : List ME)
  | bi (f : String) (es : List ME)
  | isT (e : ME) (t : String)
  | isC (e : ME) (c : Nat)
  | bm (e : ME) (t m : String) (es : List ME)
  | app (e y : ME)
  | idx (a b : ME)
  | slice (a : ME) (lo hi : Option ME)
  | rev (a : ME)
  | sset (a : ME)
  | sstep (a k : ME)
  | dnew
  | ocmp (eq : Bool) (a b : ME) (c f : Nat)
  | ostr (rp : Bool) (e : ME) (c f : Nat)
  | obool (e : ME) (c : Nat)
  | sstr (e : ME)
  | comp (mu : Bool) (elt : ME) (tg : MT) (it : MI) (cs : List ME) (own : List (Str × Nat))
  | dcomp (mu : Bool) (kx vx : ME) (tg : MT) (it : MI) (cs : List ME) (own : List (Str × Nat))
  | fstr (es : List ME)
  | fmt (e : ME)
inductive MI where
  | it (e : ME)
  | rng (es : List ME)
  | enum (e : ME)
  | zip (a b : ME)
end
inductive MS where
  | asg (i : Nat) (e : ME)
  | par (is : List Nat) (es : List ME)
  | tasg (tg : MT) (e : ME)
  | setF (o : ME) (c : Nat) (i : Nat) (e : ME)
  | setI (o i e : ME)
  | aug (i : Nat) (op : Operator) (e : ME)
  | expr (e : ME)
  | ite (t : ME) (a b : List MS)
  | for (tg : MT) (it : MI) (body : List MS)
  | while (t : ME) (body : List MS)
  | ret (e : ME)
  | retN
  | pass
  | brk
  | cnt
  | never

/-! ### data -/
def cD : Const → D
  | .none => .non
  | .bool b => .bl b
  | .int i => .int i
  | .str x => .str x
  | _ => .non
def wIf (b : Bool) (A B : Prop) : Prop := match b with
  | true => A
  | false => B
theorem wIf_eq {b : Bool} {A B : Prop} : wIf b A B = (if b = true then A else B) := by cases b <;> rfl
def wTru (d : D) (K : Bool → Prop) : Prop := match d with
  | .non => K false
  | .bl b => K b
  | .int i => K (i != 0)
  | .str x => x.length ≤ sizeLine ∧ K ((x.length : Int) != 0)
  | .tup ds => K (!ds.isEmpty)
  | .lst ds => K (!ds.isEmpty)
  | .dct ks _ => K (!ks.isEmpty)
  | _ => False
mutual
def toPy : D → PyData
  | .non => .none
  | .bl b => .bool b
  | .int i => .int i
  | .str x => .str x
  | .tup ds => .tuple (toPys ds)
  | .lst ds => .list (toPys ds)
  | _ => .none
def toPys : List D → List PyData
  | [] => []
  | d :: ds => toPy d :: toPys ds
end
mutual
def nice : D → Bool
  | .non => true
  | .bl _ => true
  | .int _ => true
  | .str _ => true
  | .tup ds => nices ds
  | .lst ds => nices ds
  | _ => false
def nices : List D → Bool
  | [] => true
  | d :: ds => nice d && nices ds
end
/-- a datum that == takes apart -/
def Cmp (d : D) : Prop := nice d = true ∧ SeqAt.shaped (toPy d) = true
def eqP (x y : D) : Bool := PyData.eqv (toPy x) (toPy y)
def flatD : D → Bool
  | .non => true
  | .bl _ => true
  | .int _ => true
  | .str _ => true
  | _ => false
/-- == of flat data -/
def eqF : D → D → Bool
  | .non, .non => true
  | .bl a, .bl b => a == b
  | .bl a, .int b => (if a then 1 else 0) == b
  | .int a, .bl b => a == (if b then 1 else 0)
  | .int a, .int b => a == b
  | .str a, .str b => a == b
  | _, _ => false
def isNon : D → Bool
  | .non => true
  | _ => false

def MulOk (i j : Int) : Prop := (-(2 ^ 64) < i ∧ i < 2 ^ 64) ∨ (-(2 ^ 64) < j ∧ j < 2 ^ 64) ∨ (i.natAbs < 2 ^ 4000 ∧ j.natAbs < 2 ^ 4000)
def DivOk (j : Int) : Prop := (j ≠ 0 ∧ j.natAbs < 1073741824) ∨ (0 < j ∧ j < 2 ^ 4000)
/-- // and % as Python has them -/
def fd (i j : Int) : Int := if j < 0 then i.fdiv j else i / j
def fm (i j : Int) : Int := if j < 0 then i.fmod j else i % j
theorem fd_pos {i j : Int} (h : 0 ≤ j) : fd i j = i / j := if_neg (by omega)
theorem fm_pos {i j : Int} (h : 0 ≤ j) : fm i j = i % j := if_neg (by omega)

def addD (x y : D) (K : D → Prop) : Prop := match x with
  | .int i => match y with
    | .int j => K (.int (i + j))
    | _ => False
  | .str a => match y with
    | .str b => a.length + b.length ≤ sizeLine ∧ K (.str (a ++ b))
    | _ => False
  | .lst xs => match y with
    | .lst ys => xs.length + ys.length ≤ sizeLine ∧ K (.lst (xs ++ ys))
    | _ => False
  | .tup xs => match y with
    | .tup ys => xs.length + ys.length ≤ sizeLine ∧ K (.tup (xs ++ ys))
    | _ => False
  | _ => False
def subD (x y : D) (K : D → Prop) : Prop := match x with
  | .int i => match y with
    | .int j => K (.int (i - j))
    | _ => False
  | _ => False
def mulD (x y : D) (K : D → Prop) : Prop := match x with
  | .int i => match y with
    | .int j => MulOk i j ∧ K (.int (i * j))
    | _ => False
  | .lst xs => match y with
    | .int k => (-(2 ^ 63) ≤ k ∧ k < 2 ^ 63 ∧ xs.length * k.toNat ≤ sizeLine) ∧ K (.lst (List.replicate k.toNat xs).flatten)
    | _ => False
  | _ => False
def divD (x y : D) (K : D → Prop) : Prop := match x with
  | .int i => match y with
    | .int j => DivOk j ∧ K (.int (fd i j))
    | _ => False
  | _ => False
def modD (x y : D) (K : D → Prop) : Prop := match x with
  | .int i => match y with
    | .int j => j ≠ 0 ∧ K (.int (fm i j))
    | _ => False
  | _ => False
def powD (x y : D) (K : D → Prop) : Prop := match x with
  | .int i => match y with
    | .int j => CPow i j ∧ K (.int (i ^ j.toNat))
    | _ => False
  | _ => False
def binD (op : Operator) (x y : D) (K : D → Prop) : Prop := match op with
  | .Add => addD x y K
  | .Sub => subD x y K
  | .Mult => mulD x y K
  | .FloorDiv => divD x y K
  | .Mod => modD x y K
  | .Pow => powD x y K
  | _ => False
def negD (x : D) (K : D → Prop) : Prop := match x with
  | .int i => K (.int (-i))
  | _ => False
/-- == : ints and texts at once, else data of any depth -/
def eqD (x y : D) (K : Bool → Prop) : Prop := match x with
  | .int i => match y with
    | .int j => K (decide (i = j))
    | y => Cmp y ∧ K (eqP (.int i) y)
  | .str a => match y with
    | .str b => K (decide (a = b))
    | y => (Cmp (.str a) ∧ Cmp y) ∧ K (eqP (.str a) y)
  | x => (Cmp x ∧ Cmp y) ∧ K (eqP x y)
def ordD (op : CmpOp) (x y : D) (K : Bool → Prop) : Prop := match x with
  | .int i => match y with
    | .int j => K (match op with
      | .Lt => decide (i < j)
      | .LtE => decide (i ≤ j)
      | .Gt => decide (j < i)
      | _ => decide (j ≤ i))
    | _ => False
  | _ => False
def keyD (x : D) (K : Key → Prop) : Prop := match x with
  | .int i => K (.inl i)
  | .str a => K (.inr a)
  | _ => False
def dget : List Key → List D → Key → Option D
  | k :: ks, d :: ds, j => if k = j then some d else dget ks ds j
  | _, _, _ => none
def dputK (ks : List Key) (j : Key) : List Key := if (ks.any fun k => decide (k = j)) = true then ks else ks ++ [j]
def dputD : List Key → List D → Key → D → List D
  | k :: ks, d :: ds, j, v => if k = j then v :: ds else d :: dputD ks ds j v
  | _, _, _, v => [v]
def inD (x y : D) (K : Bool → Prop) : Prop := match y with
  | .dct ks ds => keyD x fun k => K (dget ks ds k).isSome
  | .lst ds => wIf (flatD x && ds.all flatD) (K (ds.any fun z => eqF z x)) ((Cmp x ∧ Cmp (.lst ds)) ∧ K (ds.any fun z => eqP z x))
  | .tup ds => (flatD x = true ∧ ds.all flatD = true) ∧ K (ds.any fun z => eqF z x)
  | _ => False
def isD (x y : D) (K : Bool → Prop) : Prop := match y with
  | .non => K (isNon x)
  | _ => False
def cmpD (op : CmpOp) (x y : D) (K : D → Prop) : Prop := match op with
  | .Eq => eqD x y fun b => K (.bl b)
  | .NotEq => eqD x y fun b => K (.bl (!b))
  | .Is => isD x y fun b => K (.bl b)
  | .IsNot => isD x y fun b => K (.bl (!b))
  | .In => inD x y fun b => K (.bl b)
  | .NotIn => inD x y fun b => K (.bl (!b))
  | op => ordD op x y fun b => K (.bl b)
def lenD (x : D) (K : D → Prop) : Prop := match x with
  | .str y => y.length ≤ sizeLine ∧ K (.int y.length)
  | .scr ns => K (.int ns.length)
  | .lst ds => K (.int ds.length)
  | .tup ds => K (.int ds.length)
  | .dct ks _ => K (.int ks.length)
  | _ => False
def idxD (x y : D) (K : D → Prop) : Prop := match x with
  | .scr ns => match y with
    | .int i => ∃ d, atI ns i = some d ∧ K (.int d)
    | _ => False
  | .lst ds => match y with
    | .int i => ∃ d, atI ds i = some d ∧ K d
    | _ => False
  | .tup ds => match y with
    | .int i => ∃ d, atI ds i = some d ∧ K d
    | _ => False
  | .dct ks ds => keyD y fun k => ∃ d, dget ks ds k = some d ∧ K d
  | .str z => match y with
    | .int i => z.length ≤ sizeLine ∧ ∃ c, atI z.cps.toList i = some c ∧ K (.str ⟨#[c]⟩)
    | _ => False
  | _ => False
def cutD (xs : List D) (lo hi : Option Int) : List D := (xs.drop (HT.sIx xs.length 0 lo)).take (HT.sIx xs.length xs.length hi - HT.sIx xs.length 0 lo)
def sliD (x : D) (lo hi : Option Int) (K : D → Prop) : Prop := match x with
  | .scr ns => K (.lst (cutD (ns.map D.int) lo hi))
  | .lst ds => K (.lst (cutD ds lo hi))
  | .tup ds => K (.tup (cutD ds lo hi))
  | _ => False
def revD (x : D) (K : D → Prop) : Prop := match x with
  | .lst ds => K (.lst ds.reverse)
  | _ => False
/-- sorted(set(x)) -/
def ssetD (x : D) (K : D → Prop) : Prop := ∃ ns : List Int, x = .lst (ns.map D.int) ∧ ns.length < 64 ∧ ∀ ms : List Int, ms.Pairwise (· < ·) → (∀ k : Int, k ∈ ms ↔ k ∈ ns) → ms.length ≤ ns.length → K (.lst (ms.map D.int))
/-- x[::k] -/
def stepD (x y : D) (K : D → Prop) : Prop := ∃ ds, ∃ k : Nat, x = .lst ds ∧ y = .int (k : Int) ∧ 0 < k ∧ K (.lst (stepL ds k))
/-- the ints of a list -/
def intsOf : List D → Option (List Int)
  | [] => some []
  | .int i :: ds => (intsOf ds).map (i :: ·)
  | _ => none
def blsOf : List D → Option (List Bool)
  | [] => some []
  | .bl i :: ds => (blsOf ds).map (i :: ·)
  | _ => none
def strsOf : List D → Option (List Str)
  | [] => some []
  | .str i :: ds => (strsOf ds).map (i :: ·)
  | _ => none
def flatT : D → Bool
  | .non => true
  | .bl _ => true
  | .int _ => true
  | _ => false
def truD : D → Bool
  | .bl b => b
  | .int i => i != 0
  | _ => false
def pairD (p : Int × Int) : D := .tup [.int p.1, .int p.2]
/-- the one pair is not behind the other one -/
def leP (p q : Int × Int) : Prop := p.1 < q.1 ∨ (p.1 = q.1 ∧ p.2 ≤ q.2)
/-- the text that repr gives -/
def reprT (d : D) : Str := (toPy d).shown
structure ReprOk (d : D) : Prop where
  n : nice d = true
  s : (toPy d).showable = true
  h : (toPy d).hasDict = false
  dp : (toPy d).depth ≤ 40
  l : (reprT d).length ≤ sizeLine
@[reducible] def reprC (d : D) (K : Str → Prop) : Prop := match d with
  | .int i => i.natAbs.log2 < 1920 ∧ K (toString i)
  | .lst ds => ReprOk (.lst ds) ∧ K (reprT (.lst ds))
  | .tup ds => ReprOk (.tup ds) ∧ K (reprT (.tup ds))
  | _ => False
/-- a built-in function or type, called with values as they stand -/
def biD (f : String) (xs : List D) (K : D → Prop) : Prop :=
  match f with
  | "len" => ∃ x, xs = [x] ∧ lenD x K
  | "abs" => ∃ i : Int, xs = [.int i] ∧ K (.int (if i < 0 then -i else i))
  | "max" => (∃ i j : Int, xs = [.int i, .int j] ∧ K (.int (max i j))) ∨ ∃ ns : List Int, xs = [.lst (ns.map D.int)] ∧ 0 < ns.length ∧ ∀ m, m ∈ ns → (∀ y ∈ ns, y ≤ m) → K (.int m)
  | "min" => (∃ i j : Int, xs = [.int i, .int j] ∧ K (.int (min i j))) ∨ (∃ ns : List Int, xs = [.lst (ns.map D.int)] ∧ 0 < ns.length ∧ ∀ m, m ∈ ns → (∀ y ∈ ns, m ≤ y) → K (.int m)) ∨ (∃ ns : List Int, xs = [.tup (ns.map D.int)] ∧ 0 < ns.length ∧ ∀ m, m ∈ ns → (∀ y ∈ ns, m ≤ y) → K (.int m)) ∨ ∃ ps : List (Int × Int), xs = [.lst (ps.map pairD)] ∧ ps ≠ [] ∧ ∀ p ∈ ps, (∀ y ∈ ps, leP p y) → K (pairD p)
  | "sum" => ∃ ns : List Int, (xs = [.lst (ns.map D.int)] ∨ xs = [.tup (ns.map D.int)]) ∧ K (.int ns.sum)
  | "int" => ∃ i : Int, xs = [.int i] ∧ K (.int i)
  | "str" => (∃ i : Int, xs = [.int i] ∧ i.natAbs.log2 < 1920 ∧ K (.str (toString i))) 
  | "repr" => ∃ d : D, xs = [d] ∧ reprC d fun t => K (.str t)
  | "tuple" => (∃ ds : List D, xs = [.lst ds] ∧ K (.tup ds)) ∨ ∃ ds : List D, xs = [.tup ds] ∧ K (.tup ds)
  | "list" => (∃ ds : List D, xs = [.lst ds] ∧ K (.lst ds)) ∨ ∃ ds : List D, xs = [.tup ds] ∧ K (.lst ds)
  | "all" => ∃ ds : List D, (xs = [.lst ds] ∨ xs = [.tup ds]) ∧ ds.all flatT = true ∧ K (.bl (ds.all truD))
  | "any" => ∃ ds : List D, (xs = [.lst ds] ∨ xs = [.tup ds]) ∧ ds.all flatT = true ∧ K (.bl (ds.any truD))
  | "divmod" => ∃ i j : Int, xs = [.int i, .int j] ∧ CDiv i j ∧ K (.tup [.int (i / j), .int (i % j)])
  | "sorted" => ∃ ns : List Int, xs = [.lst (ns.map D.int)] ∧ ∀ ms : List Int, ms.Perm ns → ms.Pairwise (· ≤ ·) → K (.lst (ms.map D.int))
  | _ => False
/-- a built-in's method that changes nothing -/
def bmD (t m : String) (x : D) (xs : List D) (K : D → Prop) : Prop :=
  match t, m with
  | "str", "split" => ∃ a b : Str, x = .str a ∧ xs = [.str b] ∧ ((b.length == 0) = false ∧ a.length + 2 ≤ sizeLine) ∧ K (.lst ((Txt.split a b).map D.str))
  | "str", "join" => ∃ (a : Str) (ys : List Str), x = .str a ∧ (xs = [.lst (ys.map D.str)]) ∧ (ys.map (·.length)).sum + ys.length * a.length ≤ 16777216 ∧ K (.str (Txt.join a ys))
  | "list", "index" => ∃ (ds : List D) (y z : D) (j : Nat), x = .lst ds ∧ xs = [y] ∧ (flatD y = true ∧ ds.all flatD = true) ∧ ds[j]? = some z ∧ eqF z y = true ∧ (∀ m z', m < j → ds[m]? = some z' → eqF z' y = false) ∧ K (.int (j : Nat))
  | _, _ => False
/-- the receiver's type is asked ahead of the arguments -/
def bmTy (t : String) (x : D) (K : Prop) : Prop := match t, x with
  | "str", .str _ => K
  | "list", .lst _ => K
  | "list", .scr _ => K
  | "dict", .dct _ _ => K
  | _, _ => False
def isTyD (x : D) (t : String) (K : D → Prop) : Prop :=
  let go (s : String) : Prop := ∃ b, kitB s t = some b ∧ K (.bl b)
  match x with
  | .non => go "NoneType"
  | .bl _ => go "bool"
  | .int _ => go "int"
  | .str _ => go "str"
  | .lst _ => go "list"
  | .tup _ => go "tuple"
  | .dct _ _ => go "dict"
  | _ => False
/-- isinstance of an own class: nothing built in is one -/
def isClD (x : D) (c : Nat) (K : D → Prop) : Prop := match x with
  | .non => K (.bl false)
  | .bl _ => K (.bl false)
  | .int _ => K (.bl false)
  | .str _ => K (.bl false)
  | .lst _ => K (.bl false)
  | .tup _ => K (.bl false)
  | .dct _ _ => K (.bl false)
  | .ins c' _ => c' = c ∧ K (.bl true)
  | _ => False
def fldD (x : D) (c i : Nat) (K : D → Prop) : Prop := match x with
  | .ins c' ds => c' = c ∧ match ds[i]? with
    | some d => K d
    | none => False
  | _ => False
def insD (x : D) (c : Nat) (K : Prop) : Prop := match x with
  | .ins c' _ => c' = c ∧ K
  | _ => False
def strD (x : D) (K : Str → Prop) : Prop := match x with
  | .str a => K a
  | _ => False
/-- a changing list -/
def lstC (x : D) (C : Cs) (K : Addr → List D → Prop) : Prop := match x with
  | .ref a => match C a with
    | some (.lst ds) => K a ds
    | _ => False
  | _ => False
def setAll : List Nat → List D → Ro → Ro
  | i :: is, d :: ds, ρ => setAll is ds (ρ.set i (some d))
  | _, _, ρ => ρ
def wTg (tg : MT) (d : D) (ρ : Ro) (K : Ro → Prop) : Prop := match tg with
  | .nm i => K (ρ.set i (some d))
  | .tp is => match d with
    | .tup ds => ds.length = is.length ∧ K (setAll is ds ρ)
    | .lst ds => ds.length = is.length ∧ K (setAll is ds ρ)
    | _ => False
def wipeD (ρ : Ro) : List Nat → Ro
  | [] => ρ
  | v :: vs => (wipeD ρ vs).set v none
def itsD (d : D) (K : List D → Prop) : Prop := match d with
  | .scr ns => K (ns.map D.int)
  | .lst ds => K ds
  | .tup ds => K ds
  | _ => False
def lstD (d : D) (K : List D → Prop) : Prop := match d with
  | .scr ns => K (ns.map D.int)
  | .lst ds => K ds
  | _ => False
/-- lo, lo + c, .. (n of them) -/
def rngL (lo c : Int) : Nat → List D
  | 0 => []
  | n + 1 => .int lo :: rngL (lo + c) c n
def Sm (i : Int) : Prop := -(2 ^ 62) ≤ i ∧ i < 2 ^ 62
/-- range(i, j, c): n items -/
def RgB (i j c : Int) (n : Nat) : Prop := c ≠ 0 ∧ c.natAbs < 1073741824 ∧ Builtin.Range.rangeSize i j c = n
def rngD (xs : List D) (K : List D → Prop) : Prop := match xs with
  | [.int j] => K (rngL 0 1 j.toNat)
  | [.int i, .int j] => K (rngL i 1 (j - i).toNat)
  | [.int i, .int j, .int c] => ∃ n, RgB i j c n ∧ K (rngL i c n)
  | _ => False
def enumL : Nat → List D → List D
  | _, [] => []
  | n, d :: ds => .tup [.int n, d] :: enumL (n + 1) ds
def zipL : List D → List D → List D
  | a :: as, b :: bs => .tup [a, b] :: zipL as bs
  | _, _ => []

/-- the other side of an own == -/
def otyD (c : Nat) (y : D) (K : Prop) : Prop := match y with
  | .non => K
  | .bl _ => K
  | .int _ => K
  | .str _ => K
  | .lst _ => K
  | .tup _ => K
  | .dct _ _ => K
  | .ins c' _ => c' = c ∧ K
  | _ => False
/-! ### what is wanted -/
structure WX where
  val : Ro → Cs → KE → XD → Prop
  tst : Ro → Cs → KT → XD → Prop
abbrev WL := Ro → Cs → KL → XD → Prop
def xd0 : XD := fun _ _ _ => False
/-- an expression that is no test of its own -/
def plainX (v : Ro → Cs → KE → XD → Prop) : WX := ⟨v, fun ρ C K xd => v ρ C (fun d ρ' C' => wTru (view C' d) fun b => K b ρ' C') xd⟩
/-- an expression that is never asked as a test -/
def noT (v : Ro → Cs → KE → XD → Prop) : WX := ⟨v, fun _ _ _ _ => False⟩
/-- an expression whose value is a truth value -/
def boolX (v : Ro → Cs → KE → XD → Prop) : WX := ⟨v, fun ρ C K xd => v ρ C (fun d ρ' C' => match d with
  | .bl b => K b ρ' C'
  | _ => False) xd⟩
def pickD (pm : List Nat) (ds : List D) : List D := pm.map fun j => ds.getD j .non
/-- a new thing: it stands for ever, or it may change -/
def newW (mu : Bool) (d : D) (co : CO) (ρ : Ro) (C : Cs) (K : KE) : Prop := match mu with
  | false => K d ρ C
  | true => ∀ a, C a = none → K (.ref a) ρ (cset C a co)
def madeW (mu : Bool) (c : Nat) (a : Addr) (ρ : Ro) (C : Cs) (K : KE) : Prop := match mu with
  | true => K (.ref a) ρ C
  | false => ∃ vs, C a = some (.ins c vs) ∧ K (.ins c vs) ρ (cdel C a)
/-- the changing lists among some data stand from now on -/
def frzL : List D → Cs → List D × Cs
  | [], C => ([], C)
  | d :: ds, C => match d with
    | .ref a => match C a with
      | some (.lst es) => (.lst es :: (frzL ds (cdel C a)).1, (frzL ds (cdel C a)).2)
      | _ => (.ref a :: (frzL ds C).1, (frzL ds C).2)
    | d => (d :: (frzL ds C).1, (frzL ds C).2)
def frzV (i : Nat) (d : D) (ρ : Ro) (C : Cs) (K : KE) : Prop := match d with
  | .lst ds => K (.lst (frzL ds C).1) (ρ.set i (some (.lst (frzL ds C).1))) (frzL ds C).2
  | .ref a => match C a with
    | some (.lst ds) => K (.lst ds) (ρ.set i (some (.lst ds))) (cdel C a)
    | some (.dct ks ds) => K (.dct ks ds) (ρ.set i (some (.dct ks ds))) (cdel C a)
    | some (.ins c ds) => K (.ins c ds) (ρ.set i (some (.ins c ds))) (cdel C a)
    | none => K (.ref a) ρ C
  | d => K d ρ C
def varW (i : Nat) (frz : Bool) (ρ : Ro) (C : Cs) (K : KE) : Prop := match ρ[i]? with
  | some (some d) => match frz with
    | true => frzV i d ρ C K
    | false => K d ρ C
  | _ => False
/-- the turns of a comprehension -/
def compW (tg : MT) (tt : Ro → Cs → KT → Prop) (te : Ro → Cs → KE → Prop) (ρ0 : Ro) : List D → Cs → List D → (List D → Cs → Prop) → Prop
  | [], C, acc, K => K acc C
  | d :: ds, C, acc, K => wTg tg d ρ0 fun ρ1 => tt ρ1 C fun b ρ2 C2 => wIf b
      (te ρ2 C2 fun y _ C3 => acc.length < sizeLine ∧ compW tg tt te ρ0 ds C3 (acc ++ [y]) K)
      (compW tg tt te ρ0 ds C2 acc K)
/-- the turns of a dict's comprehension -/
def dcompW (tg : MT) (tt : Ro → Cs → KT → Prop) (tk tv : Ro → Cs → KE → Prop) (ρ0 : Ro) : List D → Cs → List Key → List D → (List Key → List D → Cs → Prop) → Prop
  | [], C, ks, vs, K => K ks vs C
  | d :: ds, C, ks, vs, K => wTg tg d ρ0 fun ρ1 => tt ρ1 C fun b ρ2 C2 => wIf b
      (tk ρ2 C2 fun y ρ3 C3 => tv ρ3 C3 fun z _ C4 => keyD y fun k => ks.length < sizeLine ∧ dcompW tg tt tk tv ρ0 ds C4 (dputK ks k) (dputD ks vs k z) K)
      (dcompW tg tt tk tv ρ0 ds C2 ks vs K)
section
variable (Γ : Specs)
mutual
def wpX : ME → WX
  | .var i frz => plainX fun ρ C K _ => varW i frz ρ C K
  | .cst c => plainX fun ρ C K _ => K (cD c) ρ C
  | .gint _ i => plainX fun ρ C K _ => K (.int i) ρ C
  | .bin op a b => plainX fun ρ C K xd => (wpX a).val ρ C (fun x ρ1 C1 => (wpX b).val ρ1 C1 (fun y ρ2 C2 => binD op (view C2 x) (view C2 y) fun z => K z ρ2 C2) xd) xd
  | .neg a => plainX fun ρ C K xd => (wpX a).val ρ C (fun x ρ1 C1 => negD x fun z => K z ρ1 C1) xd
  | .not a => ⟨fun ρ C K xd => (wpX a).val ρ C (fun x ρ1 C1 => wTru (view C1 x) fun b => K (.bl (!b)) ρ1 C1) xd, fun ρ C K xd => (wpX a).tst ρ C (fun b => K (!b)) xd⟩
  | .bo op es => wpBo op es
  | .cmp op a b => boolX fun ρ C K xd => (wpX a).val ρ C (fun x ρ1 C1 => (wpX b).val ρ1 C1 (fun y ρ2 C2 => cmpD op (view C2 x) (view C2 y) fun z => K z ρ2 C2) xd) xd
  | .chain op op2 a b c => boolX fun ρ C K xd => (wpX a).val ρ C (fun x ρ1 C1 => (wpX b).val ρ1 C1 (fun y ρ2 C2 => cmpD op (view C2 x) (view C2 y) fun z => match z with
      | .bl t => wIf t ((wpX c).val ρ2 C2 (fun u ρ3 C3 => cmpD op2 (view C3 y) (view C3 u) fun z2 => K z2 ρ3 C3) xd) (K (.bl false) ρ2 C2)
      | _ => False) xd) xd
  | .ite t a b => noT fun ρ C K xd => (wpX t).tst ρ C (fun c ρ1 C1 => wIf c ((wpX a).val ρ1 C1 K xd) ((wpX b).val ρ1 C1 K xd)) xd
  | .tup es => plainX fun ρ C K xd => wpL es ρ C (fun ds ρ1 C1 => ds.length ≤ sizeLine ∧ K (.tup ds) ρ1 C1) xd
  | .lst mu es => plainX fun ρ C K xd => wpL es ρ C (fun ds ρ1 C1 => ds.length ≤ sizeLine ∧ newW mu (.lst ds) (.lst ds) ρ1 C1 K) xd
  | .star _ => plainX fun _ _ _ _ => False
  | .fld e c i => plainX fun ρ C K xd => (wpX e).val ρ C (fun x ρ1 C1 => fldD (view C1 x) c i fun z => K z ρ1 C1) xd
  | .prop e c f => plainX fun ρ C K xd => (wpX e).val ρ C (fun x ρ1 C1 => insD (view C1 x) c (Γ f [x] C1 (fun r C2 => K r ρ1 C2) fun _ _ => False)) xd
  | .call f es nd => plainX fun ρ C K xd => wpL es ρ C (fun ds ρ1 C1 => Γ f (ds ++ List.replicate nd (.tup [])) C1 (fun r C2 => K r ρ1 C2) fun e C2 => xd e ρ1 C2) xd
  | .callk f es _ zs pm => plainX fun ρ C K xd => wpL es ρ C (fun ds ρ1 C1 => wpL zs ρ1 C1 (fun us ρ2 C2 => (ds.length = es.length ∧ us.length = zs.length) ∧ Γ f (pickD pm (ds ++ us)) C2 (fun r C3 => K r ρ2 C3) fun e C3 => xd e ρ2 C3) xd) xd
  | .make mu c f es nd => plainX fun ρ C K xd => wpL es ρ C (fun ds ρ1 C1 => ∀ a, C1 a = none → Γ f (.ref a :: (ds ++ List.replicate nd (.tup []))) (cset C1 a (.ins c [])) (fun r C2 => r = .non ∧ madeW mu c a ρ1 C2 K) fun e C2 => xd e ρ1 C2) xd
  | .makek mu c f es _ zs pm => plainX fun ρ C K xd => wpL es ρ C (fun ds ρ1 C1 => wpL zs ρ1 C1 (fun us ρ2 C2 => (ds.length = es.length ∧ us.length = zs.length) ∧ ∀ a, C2 a = none → Γ f (.ref a :: pickD pm (ds ++ us)) (cset C2 a (.ins c [])) (fun r C3 => r = .non ∧ madeW mu c a ρ2 C3 K) fun e C3 => xd e ρ2 C3) xd) xd
  | .meth e c f es => plainX fun ρ C K xd => (wpX e).val ρ C (fun x ρ1 C1 => insD (view C1 x) c (wpL es ρ1 C1 (fun ds ρ2 C2 => Γ f (x :: ds) C2 (fun r C3 => K r ρ2 C3) fun e C3 => xd e ρ2 C3) xd)) xd
  | .bi f es => plainX fun ρ C K xd => wpL es ρ C (fun ds ρ1 C1 => biD f (ds.map (view C1)) fun z => K z ρ1 C1) xd
  | .isT e t => plainX fun ρ C K xd => (wpX e).val ρ C (fun x ρ1 C1 => isTyD (view C1 x) t fun z => K z ρ1 C1) xd
  | .isC e c => plainX fun ρ C K xd => (wpX e).val ρ C (fun x ρ1 C1 => isClD (view C1 x) c fun z => K z ρ1 C1) xd
  | .bm e t m es => plainX fun ρ C K xd => (wpX e).val ρ C (fun x ρ1 C1 => bmTy t (view C1 x) (wpL es ρ1 C1 (fun ds ρ2 C2 => bmD t m (view C2 x) (ds.map (view C2)) fun z => K z ρ2 C2) xd)) xd
  | .app e y => plainX fun ρ C K xd => (wpX e).val ρ C (fun x ρ1 C1 => lstC x C1 fun a _ => (wpX y).val ρ1 C1 (fun d ρ2 C2 => lstC (.ref a) C2 fun _ xs => xs.length < sizeLine ∧ K .non ρ2 (cset C2 a (.lst (xs ++ [d])))) xd) xd
  | .idx a b => plainX fun ρ C K xd => (wpX a).val ρ C (fun x ρ1 C1 => (wpX b).val ρ1 C1 (fun y ρ2 C2 => idxD (view C2 x) (view C2 y) fun z => K z ρ2 C2) xd) xd
  | .slice a lo hi => plainX fun ρ C K xd => (wpX a).val ρ C (fun x ρ1 C1 => wpO lo ρ1 C1 (fun l ρ2 C2 => wpO hi ρ2 C2 (fun h ρ3 C3 => sliD (view C3 x) l h fun z => K z ρ3 C3) xd) xd) xd
  | .sset a => plainX fun ρ C K xd => (wpX a).val ρ C (fun x ρ1 C1 => ssetD (view C1 x) fun z => K z ρ1 C1) xd
  | .dnew => plainX fun ρ C K _ => newW true .non (.dct [] []) ρ C K
  | .ocmp eq a b c f => boolX fun ρ C K xd => (wpX a).val ρ C (fun x ρ1 C1 => (wpX b).val ρ1 C1 (fun y ρ2 C2 => insD (view C2 x) c (otyD c (view C2 y) (Γ f [x, y] C2 (fun r C3 => ∃ b, r = .bl b ∧ K (.bl (b == eq)) ρ2 C3) fun _ _ => False))) xd) xd
  | .ostr _ e c f => plainX fun ρ C K xd => (wpX e).val ρ C (fun x ρ1 C1 => insD (view C1 x) c (Γ f [x] C1 (fun r C2 => ∃ t, r = .str t ∧ K r ρ1 C2) fun _ _ => False)) xd
  | .obool e c => plainX fun ρ C K xd => (wpX e).val ρ C (fun x ρ1 C1 => insD (view C1 x) c (K (.bl true) ρ1 C1)) xd
  | .sstr e => plainX fun ρ C K xd => (wpX e).val ρ C (fun x ρ1 C1 => strD x fun y => K (.str y) ρ1 C1) xd
  | .sstep a b => plainX fun ρ C K xd => (wpX a).val ρ C (fun x ρ1 C1 => (wpX b).val ρ1 C1 (fun y ρ2 C2 => stepD (view C2 x) y fun z => K z ρ2 C2) xd) xd
  | .rev a => plainX fun ρ C K xd => (wpX a).val ρ C (fun x ρ1 C1 => revD (view C1 x) fun z => K z ρ1 C1) xd
  | .comp mu elt tg it cs own => plainX fun ρ C K xd => wpI it ρ C (fun ds ρ1 C1 => compW tg (fun ρ C K => wpTs cs ρ C K xd0) (fun ρ C K => (wpX elt).val ρ C K xd0) (wipeD ρ1 (own.map (·.2))) ds C1 [] fun acc C2 => newW mu (.lst acc) (.lst acc) ρ1 C2 K) xd
  | .dcomp mu kx vx tg it cs own => plainX fun ρ C K xd => wpI it ρ C (fun ds ρ1 C1 => dcompW tg (fun ρ C K => wpTs cs ρ C K xd0) (fun ρ C K => (wpX kx).val ρ C K xd0) (fun ρ C K => (wpX vx).val ρ C K xd0) (wipeD ρ1 (own.map (·.2))) ds C1 [] [] fun ks vs C2 => newW mu (.dct ks vs) (.dct ks vs) ρ1 C2 K) xd
  | .fstr es => plainX fun ρ C K xd => wpJ es ρ C Str.empty (fun s ρ1 C1 => K (.str s) ρ1 C1) xd
  | .fmt e => plainX fun ρ C K xd => (wpX e).val ρ C (fun x ρ1 C1 => match x with
      | .str a => a.length ≤ sizeLine ∧ K (.str a) ρ1 C1
      | .int i => i.natAbs.log2 < 1920 ∧ K (.str (toString i)) ρ1 C1
      | _ => False) xd
def wpL : List ME → WL
  | [] => fun ρ C K _ => K [] ρ C
  | .star e :: es => fun ρ C K xd => (wpX e).val ρ C (fun x ρ1 C1 => itsD (view C1 x) fun xs => wpL es ρ1 C1 (fun ds ρ2 C2 => K (xs ++ ds) ρ2 C2) xd) xd
  | e :: es => fun ρ C K xd => (wpX e).val ρ C (fun x ρ1 C1 => wpL es ρ1 C1 (fun ds ρ2 C2 => K (x :: ds) ρ2 C2) xd) xd
def wpBo (op : BoolOp) : List ME → WX
  | [] => plainX fun _ _ _ _ => False
  | [e] => wpX e
  | e :: es => ⟨fun ρ C K xd => (wpX e).val ρ C (fun x ρ1 C1 => wTru (view C1 x) fun b => match op with
        | .And => wIf b ((wpBo op es).val ρ1 C1 K xd) (K x ρ1 C1)
        | .Or => wIf b (K x ρ1 C1) ((wpBo op es).val ρ1 C1 K xd)) xd,
      fun ρ C K xd => (wpX e).tst ρ C (fun b ρ1 C1 => match op with
        | .And => wIf b ((wpBo op es).tst ρ1 C1 K xd) (K false ρ1 C1)
        | .Or => wIf b (K true ρ1 C1) ((wpBo op es).tst ρ1 C1 K xd)) xd⟩
def wpO : Option ME → Ro → Cs → (Option Int → Ro → Cs → Prop) → XD → Prop
  | none => fun ρ C K _ => K none ρ C
  | some e => fun ρ C K xd => (wpX e).val ρ C (fun x ρ1 C1 => match x with
      | .int i => K (some i) ρ1 C1
      | _ => False) xd
def wpTs : List ME → Ro → Cs → KT → XD → Prop
  | [] => fun ρ C K _ => K true ρ C
  | e :: _ => fun ρ C K xd => (wpX e).tst ρ C K xd
def wpJ : List ME → Ro → Cs → Str → (Str → Ro → Cs → Prop) → XD → Prop
  | [] => fun ρ C acc K _ => K acc ρ C
  | e :: es => fun ρ C acc K xd => (wpX e).val ρ C (fun x ρ1 C1 => strD x fun y => (acc ++ y).length ≤ sizeLine ∧ wpJ es ρ1 C1 (acc ++ y) K xd) xd
def wpI : MI → WL
  | .it e => fun ρ C K xd => (wpX e).val ρ C (fun x ρ1 C1 => itsD x fun xs => K xs ρ1 C1) xd
  | .rng es => fun ρ C K xd => wpL es ρ C (fun ds ρ1 C1 => rngD ds fun xs => K xs ρ1 C1) xd
  | .enum e => fun ρ C K xd => (wpX e).val ρ C (fun x ρ1 C1 => itsD x fun xs => K (enumL 0 xs) ρ1 C1) xd
  | .zip a b => fun ρ C K xd => (wpX a).val ρ C (fun x ρ1 C1 => (wpX b).val ρ1 C1 (fun y ρ2 C2 => match x with
      | .lst xs => match y with
        | .lst ys => K (zipL xs ys) ρ2 C2
        | _ => False
      | .tup xs => match y with
        | .tup ys => K (zipL xs ys) ρ2 C2
        | _ => False
      | _ => False) xd) xd
end
/-- what is wanted behind a statement -/
structure En where
  nx : Ro → Cs → Prop
  rt : D → Cs → Prop
  bk : Ro → Cs → Prop
  ct : Ro → Cs → Prop
  ex : XD
def forW (tg : MT) (b : Ro → Cs → En → Prop) : List D → Ro → Cs → En → Prop
  | [], ρ, C, E => E.nx ρ C
  | d :: ds, ρ, C, E => wTg tg d ρ fun ρ1 => b ρ1 C { E with nx := fun ρ2 C2 => forW tg b ds ρ2 C2 E, ct := fun ρ2 C2 => forW tg b ds ρ2 C2 E, bk := E.nx }
def whileW (t : Ro → Cs → KT → XD → Prop) (b : Ro → Cs → En → Prop) (ρ : Ro) (C : Cs) (E : En) : Prop :=
  ∃ I : Nat → Ro → Cs → Prop, (∃ m, I m ρ C) ∧ ∀ m ρ C, I m ρ C → t ρ C (fun k ρ1 C1 => wIf k
    (b ρ1 C1 { E with nx := fun ρ2 C2 => ∃ m', m' < m ∧ I m' ρ2 C2, ct := fun ρ2 C2 => ∃ m', m' < m ∧ I m' ρ2 C2, bk := E.nx }) (E.nx ρ1 C1)) E.ex
def setID (o i v : D) (C : Cs) (K : Cs → Prop) : Prop := match o with
  | .ref a => match C a with
    | some (.lst ds) => match i with
      | .int k => ∃ j, ixN ds.length k = some j ∧ K (cset C a (.lst (ds.set j v)))
      | _ => False
    | some (.dct ks ds) => keyD i fun k => ks.length < sizeLine ∧ K (cset C a (.dct (dputK ks k) (dputD ks ds k v)))
    | _ => False
  | _ => False
/-- a field is written: one that is there, or the next one -/
def putI (i : Nat) (v : D) (ds : List D) : List D := if i < ds.length then ds.set i v else ds ++ [v]
def setFD (o : D) (c i : Nat) (v : D) (C : Cs) (K : Cs → Prop) : Prop := match o with
  | .ref a => match C a with
    | some (.ins c' ds) => (c' = c ∧ i ≤ ds.length) ∧ K (cset C a (.ins c (putI i v ds)))
    | _ => False
  | _ => False
mutual
def wpS : MS → Ro → Cs → En → Prop
  | .asg i e => fun ρ C E => (wpX Γ e).val ρ C (fun x ρ1 C1 => E.nx (ρ1.set i (some x)) C1) E.ex
  | .par is es => fun ρ C E => wpL Γ es ρ C (fun ds ρ1 C1 => ds.length = is.length ∧ E.nx (setAll is ds ρ1) C1) E.ex
  | .tasg tg e => fun ρ C E => (wpX Γ e).val ρ C (fun x ρ1 C1 => wTg tg x ρ1 fun ρ2 => E.nx ρ2 C1) E.ex
  | .setF o c i e => fun ρ C E => (wpX Γ e).val ρ C (fun x ρ1 C1 => (wpX Γ o).val ρ1 C1 (fun y ρ2 C2 => setFD y c i x C2 fun C3 => E.nx ρ2 C3) E.ex) E.ex
  | .setI o i e => fun ρ C E => (wpX Γ e).val ρ C (fun x ρ1 C1 => (wpX Γ o).val ρ1 C1 (fun y ρ2 C2 => (wpX Γ i).val ρ2 C2 (fun z ρ3 C3 => setID y z x C3 fun C4 => E.nx ρ3 C4) E.ex) E.ex) E.ex
  | .aug i op e => fun ρ C E => match ρ[i]? with
      | some (some x) => (wpX Γ e).val ρ C (fun y ρ1 C1 => match op with
        | .Add => (∃ a b, x = .int a ∧ y = .int b ∧ E.nx (ρ1.set i (some (.int (a + b)))) C1)
        | .Sub => (∃ a b, x = .int a ∧ y = .int b ∧ E.nx (ρ1.set i (some (.int (a - b)))) C1)
        | .Mult => (∃ a b, x = .int a ∧ y = .int b ∧ CMul a b ∧ E.nx (ρ1.set i (some (.int (a * b)))) C1)
        | _ => False) E.ex
      | _ => False
  | .expr e => fun ρ C E => (wpX Γ e).val ρ C (fun _ ρ1 C1 => E.nx ρ1 C1) E.ex
  | .ite t a b => fun ρ C E => (wpX Γ t).tst ρ C (fun k ρ1 C1 => wIf k (wpSs a ρ1 C1 E) (wpSs b ρ1 C1 E)) E.ex
  | .for tg it b => fun ρ C E => wpI Γ it ρ C (fun ds ρ1 C1 => forW tg (wpSs b) ds ρ1 C1 E) E.ex
  | .while t b => fun ρ C E => whileW (wpX Γ t).tst (wpSs b) ρ C E
  | .ret e => fun ρ C E => (wpX Γ e).val ρ C (fun x _ C1 => E.rt x C1) E.ex
  | .retN => fun _ C E => E.rt .non C
  | .pass => fun ρ C E => E.nx ρ C
  | .brk => fun ρ C E => E.bk ρ C
  | .cnt => fun ρ C E => E.ct ρ C
  | .never => fun _ _ _ => False
def wpSs : List MS → Ro → Cs → En → Prop
  | [] => fun ρ C E => E.nx ρ C
  | s :: ss => fun ρ C E => wpS s ρ C { E with nx := fun ρ1 C1 => wpSs ss ρ1 C1 E }
end
end
end Mp

set_option Elab.async false
set_option linter.all false
set_option maxRecDepth 100000
set_option maxHeartbeats 4000000
/-! Mp, part C: operators, comparisons, built-in calls on plain data. -/
namespace Mp
open PySem PySem.Spec L2

section
variable {T : Tb} {G H : Hp} {C : Cs}
/-- what is wanted of an answer, at the heap behind -/
def Post (T : Tb) (G H : Hp) (C : Cs) (K : D → Prop) (Q : VK) : Prop := ∀ z w G' H', K z → Rel T G' H' C → Fr G H C G' H' C → Rep T G' z w → Q w H'
theorem Post.same {K : D → Prop} {Q : VK} (p : Post T G H C K Q) (r : Rel T G H C) {z : D} {w : V} (k : K z) (h : Rep T G z w) : Q w H := p z w G H k r Fr.refl h
theorem Post.lay {K : D → Prop} {Q : VK} (p : Post T G H C K Q) (r : Rel T G H C) {z : D} {a : Addr} {o : HO} (k : K z) (hn : H a = none) (h : Rep T (upd G a o) z (.ref a)) : Q (.ref a) (upd H a o) :=
  p z _ _ _ k (r.lay hn).1 (r.lay hn).2 h
theorem rep_lst {a : Addr} {ds : List D} {vs : List V} (h : Reps T G ds vs) (hg : G a = none) : Rep T (upd G a (.lst vs)) (.lst ds) (.ref a) := ⟨a, vs, rfl, upd_same, Reps.up (same_upd hg) _ _ h⟩
theorem rep_tup {a : Addr} {ds : List D} {vs : List V} (h : Reps T G ds vs) (hg : G a = none) : Rep T (upd G a (.tup vs)) (.tup ds) (.ref a) := ⟨a, vs, rfl, SqT.of upd_same, Reps.up (same_upd hg) _ _ h⟩
theorem view_tup {x : D} {ds : List D} (h : view C x = .tup ds) : x = .tup ds := by
  cases x with
  | ref a =>
    unfold view at h
    dsimp only at h
    cases q : C a with
    | none => rw [q] at h; cases h
    | some co => rw [q] at h; cases co <;> cases h
  | _ => exact h
/-- data that == takes apart, as the library reads them -/
theorem dp_any (e : Same G H) : ∀ (d : D) (v : V), nice d = true → Rep T G d v → Dp T.K H v (toPy d)
  | .non, _, _, h => by rw [show _ = V.non from h]; exact .non
  | .bl b, _, _, h => by rw [show _ = V.bl b from h]; exact .bl b
  | .int i, _, _, h => by rw [show _ = V.int i from h]; exact .int i
  | .str x, _, _, h => by rw [show _ = V.str x from h]; exact .str x
  | .ty _, _, n, _ => by cases n
  | .ref _, _, n, _ => by cases n
  | .scr _, _, n, _ => by cases n
  | .dct _ _, _, n, _ => by cases n
  | .ins _ _, _, n, _ => by cases n
  | .tup ds, _, n, h => by
    obtain ⟨a, vs, rfl, h2, h3⟩ := h
    exact .tup (sqt_up e h2) (dps_any e ds vs n h3)
  | .lst ds, _, n, h => by
    obtain ⟨a, vs, rfl, h2, h3⟩ := h
    exact .lst (SqL.of (e _ _ h2)) (dps_any e ds vs n h3)
where dps_any (e : Same G H) : ∀ (ds : List D) (vs : List V), nices ds = true → Reps T G ds vs → DpAll T.K H vs (toPys ds)
  | [], _, _, h => by rw [show _ = [] from h]; exact .nil
  | d :: ds, _, n, h => by
    obtain ⟨v, r, rfl, h2, h3⟩ := h
    have n' : (nice d && nices ds) = true := n
    rw [Bool.and_eq_true] at n'
    exact .cons (dp_any e d v n'.1 h2) (dps_any e ds r n'.2 h3)
theorem dp_top (e : Same G H) : ∀ {d : D} {v : V}, nice d = true → Top T G H d v → Dp T.K H v (toPy d)
  | .non, _, _, h => by rw [show _ = V.non from h]; exact .non
  | .bl b, _, _, h => by rw [show _ = V.bl b from h]; exact .bl b
  | .int i, _, _, h => by rw [show _ = V.int i from h]; exact .int i
  | .str x, _, _, h => by rw [show _ = V.str x from h]; exact .str x
  | .ty _, _, n, _ => by cases n
  | .ref _, _, n, _ => by cases n
  | .scr _, _, n, _ => by cases n
  | .dct _ _, _, n, _ => by cases n
  | .ins _ _, _, n, _ => by cases n
  | .tup ds, _, n, h => by
    obtain ⟨a, vs, rfl, h2, h3⟩ := h
    exact .tup h2 (dp_any.dps_any e ds vs n h3)
  | .lst ds, _, n, h => by
    obtain ⟨a, vs, rfl, h2, h3⟩ := h
    exact .lst (SqL.of h2) (dp_any.dps_any e ds vs n h3)
theorem flat_rep : ∀ {d : D} {v : V}, flatD d = true → Rep T G d v → flatV v = true ∧ ∀ {e : D} {u : V}, flatD e = true → Rep T G e u → eqV v u = eqF d e := by
  intro d v f h
  cases d with
  | non =>
    obtain rfl : v = .non := h
    refine ⟨rfl, fun {e u} g k => ?_⟩
    cases e with
    | non => obtain rfl : u = .non := k; rfl
    | bl b => obtain rfl : u = .bl b := k; rfl
    | int b => obtain rfl : u = .int b := k; rfl
    | str b => obtain rfl : u = .str b := k; rfl
    | _ => cases g
  | bl a =>
    obtain rfl : v = .bl a := h
    refine ⟨rfl, fun {e u} g k => ?_⟩
    cases e with
    | non => obtain rfl : u = .non := k; rfl
    | bl b => obtain rfl : u = .bl b := k; rfl
    | int b => obtain rfl : u = .int b := k; rfl
    | str b => obtain rfl : u = .str b := k; rfl
    | _ => cases g
  | int a =>
    obtain rfl : v = .int a := h
    refine ⟨rfl, fun {e u} g k => ?_⟩
    cases e with
    | non => obtain rfl : u = .non := k; rfl
    | bl b => obtain rfl : u = .bl b := k; rfl
    | int b => obtain rfl : u = .int b := k; rfl
    | str b => obtain rfl : u = .str b := k; rfl
    | _ => cases g
  | str a =>
    obtain rfl : v = .str a := h
    refine ⟨rfl, fun {e u} g k => ?_⟩
    cases e with
    | non => obtain rfl : u = .non := k; rfl
    | bl b => obtain rfl : u = .bl b := k; rfl
    | int b => obtain rfl : u = .int b := k; rfl
    | str b => obtain rfl : u = .str b := k; rfl
    | _ => cases g
  | _ => cases f
theorem flat_all : ∀ {ds : List D} {vs : List V}, ds.all flatD = true → Reps T G ds vs → vs.all flatV = true
  | [], _, _, h => by rw [show _ = [] from h]; rfl
  | d :: ds, _, f, h => by
    obtain ⟨v, r, rfl, h2, h3⟩ := h
    rw [List.all_cons, Bool.and_eq_true] at f ⊢
    exact ⟨(flat_rep f.1 h2).1, flat_all f.2 h3⟩
theorem any_rep {x : D} {u : V} (fx : flatD x = true) (hx : Rep T G x u) : ∀ {ds : List D} {vs : List V}, ds.all flatD = true → Reps T G ds vs → inV u vs = ds.any fun z => eqF z x
  | [], _, _, h => by rw [show _ = [] from h]; rfl
  | d :: ds, _, f, h => by
    obtain ⟨v, r, rfl, h2, h3⟩ := h
    rw [List.all_cons, Bool.and_eq_true] at f
    show ((v :: r).any fun y => eqV y u) = _
    rw [List.any_cons, List.any_cons, (flat_rep f.1 h2).2 fx hx]
    have := any_rep fx hx f.2 h3
    unfold inV at this
    rw [this]
theorem isNon_rep : ∀ {d : D} {v : V}, Top T G H d v → decide (v = .non) = isNon d := by
  intro d v h
  cases d with
  | non => obtain rfl : v = .non := h; rfl
  | bl b => obtain rfl : v = .bl b := h; rfl
  | int b => obtain rfl : v = .int b := h; rfl
  | str b => obtain rfl : v = .str b := h; rfl
  | ty b => obtain rfl : v = .ty b := h; rfl
  | ref b => obtain rfl : v = .ref b := h; rfl
  | scr b => obtain ⟨a, rfl, _⟩ := h; rfl
  | tup b => obtain ⟨a, vs, rfl, _⟩ := h; rfl
  | lst b => obtain ⟨a, vs, rfl, _⟩ := h; rfl
  | dct b c => obtain ⟨a, vs, rfl, _⟩ := h; rfl
  | ins b c => obtain ⟨a, vs, c, rfl, _⟩ := h; rfl
/-! dicts -/
theorem dget_val : ∀ {kvs : List (Key × V)} {ds : List D}, Reps T G ds (kvs.map (·.2)) → ∀ k : Key, (dget (kvs.map (·.1)) ds k = none ∧ valV kvs k = none) ∨ ∃ d v, dget (kvs.map (·.1)) ds k = some d ∧ valV kvs k = some v ∧ Rep T G d v
  | [], ds, h, k => .inl ⟨rfl, rfl⟩
  | (j, v) :: kvs, ds, h, k => by
    cases ds with
    | nil => cases (show _ :: _ = [] from h)
    | cons d ds =>
      obtain ⟨v', r, e, h2, h3⟩ := h
      rw [List.map_cons] at e
      injection e with e1 e2
      dsimp only at e1
      subst e1 e2
      rw [List.map_cons]
      by_cases hj : j = k
      · refine .inr ⟨d, v, ?_, valV_pos hj, h2⟩
        unfold dget
        rw [if_pos hj]
      · have ih := dget_val h3 k
        rw [valV_neg (p := (j, v)) hj]
        unfold dget
        rw [if_neg hj]
        exact ih
theorem put_keys (k : Key) (v : V) : ∀ kvs : List (Key × V), (putK kvs k v).map (·.1) = dputK (kvs.map (·.1)) k := fun kvs => by
  unfold putK dputK
  have e : ((kvs.map (·.1)).any fun j => decide (j = k)) = kvs.any fun kv => decide (kv.1 = k) := by
    rw [List.any_map]
    rfl
  rw [e]
  split
  · rw [List.map_map]
    refine List.map_congr_left fun p _ => ?_
    show (if p.1 = k then (p.1, v) else p).1 = p.1
    split <;> rfl
  · rw [List.map_append]
    rfl
theorem put_vals {k : Key} {v : V} {d : D} (hd : Rep T G d v) : ∀ {kvs : List (Key × V)} {ds : List D}, (kvs.map (·.1)).Nodup → Reps T G ds (kvs.map (·.2)) → Reps T G (dputD (kvs.map (·.1)) ds k d) ((putK kvs k v).map (·.2))
  | [], ds, _, h => by
    cases ds with
    | nil => exact ⟨v, [], rfl, hd, rfl⟩
    | cons d ds => obtain ⟨_, _, e, _⟩ := h; cases e
  | (j, u) :: kvs, ds, nd, h => by
    cases ds with
    | nil => cases (show _ :: _ = [] from h)
    | cons c ds =>
      obtain ⟨v', r, e, h2, h3⟩ := h
      rw [List.map_cons] at e
      injection e with e1 e2
      dsimp only at e1
      subst e1 e2
      rw [List.map_cons] at nd ⊢
      obtain ⟨n1, n2⟩ := List.nodup_cons.mp nd
      have ih := put_vals (k := k) (d := d) hd n2 h3
      unfold dputD
      by_cases hj : j = k
      · rw [if_pos hj]
        subst hj
        have e2 : putK ((j, u) :: kvs) j v = (j, v) :: kvs := by
          unfold putK
          rw [if_pos (by simp), List.map_cons, if_pos rfl]
          congr 1
          refine (List.map_congr_left fun p hp => ?_).trans (List.map_id _)
          rw [if_neg (fun z : p.1 = j => n1 (by show j ∈ _; rw [← z]; exact List.mem_map_of_mem hp))]
          rfl
        rw [e2, List.map_cons]
        exact ⟨v, _, rfl, hd, h3⟩
      · rw [if_neg hj]
        have e2 : putK ((j, u) :: kvs) k v = (j, u) :: putK kvs k v := by
          unfold putK
          rw [List.any_cons, decide_eq_false (show ¬ (j, u).1 = k from hj), Bool.false_or]
          split
          · rw [List.map_cons, if_neg (show ¬ (j, u).1 = k from hj)]
          · rfl
        rw [e2, List.map_cons]
        exact ⟨u, _, rfl, h2, ih⟩
end

section
variable {X : Cx} {T : Tb}
/-- an operation on two values, by data -/
def R2D (T : Tb) (f : D → D → (D → Prop) → Prop) : R2 := fun u v H Q => ∃ (G : Hp) (C : Cs) (x y : D) (K : D → Prop), Rel T G H C ∧ Rep T G x u ∧ Rep T G y v ∧ f (view C x) (view C y) K ∧ Post T G H C K Q
theorem mulok {i j : Int} (h : MulOk i j) : CMul i j ∨ CMulW i j := by
  rcases h with h | h | ⟨h1, h2⟩
  · exact .inl (.inl h)
  · exact .inl (.inr h)
  · exact .inr (wide_mul h1 h2 (by decide) (by decide) (by decide))
theorem add_ok (hK : X.K = T.K) : OpR X (binaryOp .Add) (R2D T addD) := by
  intro pins s σ H u v uv vv Q I ru rv ⟨G, C, x, y, K, rel, hx, hy, h, post⟩
  have tx := top_view rel hx
  have ty := top_view rel hy
  generalize ex : view C x = x' at h tx
  generalize ey : view C y = y' at h ty
  cases x' with
  | int i =>
    cases y' with
    | int j =>
      obtain rfl := tx; obtain rfl := ty
      exact op_add pins s σ H _ _ uv vv Q I ru rv ⟨i, j, rfl, rfl, post.same rel h rfl⟩
    | _ => exact h.elim
  | str a =>
    cases y' with
    | str b =>
      obtain rfl := tx; obtain rfl := ty
      exact op_add_str pins s σ H _ _ uv vv Q I ru rv ⟨a, b, rfl, rfl, h.1, post.same rel h.2 rfl⟩
    | _ => exact h.elim
  | lst xs =>
    cases y' with
    | lst ys =>
      obtain ⟨a, vs, rfl, ha, hr⟩ := tx
      obtain ⟨b, ws, rfl, hb, hs⟩ := ty
      refine op_cat pins s σ H _ _ uv vv Q I ru rv ⟨a, b, vs, ws, rfl, rfl, ha, hb, by rw [hr.len, hs.len]; exact h.1, fun p hp => ?_⟩
      exact post.lay rel h.2 hp (rep_lst (hr.app hs) (rel.fresh hp).1)
    | _ => exact h.elim
  | tup xs =>
    cases y' with
    | tup ys =>
      obtain rfl := view_tup ex
      obtain rfl := view_tup ey
      obtain ⟨a, vs, rfl, ha, hr⟩ := tx
      obtain ⟨b, ws, rfl, hb, hs⟩ := ty
      rw [← hK] at ha hb
      have l1 := hr.len
      have l2 := hs.len
      refine op_catA pins s σ H _ _ uv vv Q I ru rv ⟨a, b, vs, ws, rfl, rfl, ha, hb, by rw [l1, l2]; exact h.1, fun e => ?_, fun _ e => ?_, fun _ _ p hp => post.lay rel h.2 hp (rep_tup (hr.app hs) (rel.fresh hp).1)⟩
      · subst e
        obtain rfl : xs = [] := List.eq_nil_of_length_eq_zero l1.symm
        exact post.same rel h.2 hy
      · subst e
        obtain rfl : ys = [] := List.eq_nil_of_length_eq_zero l2.symm
        refine post.same rel h.2 ?_
        rw [List.append_nil]
        exact hx
    | _ => exact h.elim
  | _ => exact h.elim
theorem sub_ok : OpR X (binaryOp .Sub) (R2D T subD) := by
  intro pins s σ H u v uv vv Q I ru rv ⟨G, C, x, y, K, rel, hx, hy, h, post⟩
  have tx := top_view rel hx
  have ty := top_view rel hy
  generalize ex : view C x = x' at h tx
  generalize ey : view C y = y' at h ty
  cases x' with
  | int i =>
    cases y' with
    | int j =>
      obtain rfl := tx; obtain rfl := ty
      exact op_sub pins s σ H _ _ uv vv Q I ru rv ⟨i, j, rfl, rfl, post.same rel h rfl⟩
    | _ => exact h.elim
  | _ => exact h.elim
theorem mul_ok : OpR X (binaryOp .Mult) (R2D T mulD) := by
  intro pins s σ H u v uv vv Q I ru rv ⟨G, C, x, y, K, rel, hx, hy, h, post⟩
  have tx := top_view rel hx
  have ty := top_view rel hy
  generalize ex : view C x = x' at h tx
  generalize ey : view C y = y' at h ty
  cases x' with
  | int i =>
    cases y' with
    | int j =>
      obtain rfl := tx; obtain rfl := ty
      rcases mulok h.1 with z | z
      · exact op_mul pins s σ H _ _ uv vv Q I ru rv ⟨i, j, rfl, rfl, z, post.same rel h.2 rfl⟩
      · exact op_mulW pins s σ H _ _ uv vv Q I ru rv ⟨i, j, rfl, rfl, z, post.same rel h.2 rfl⟩
    | _ => exact h.elim
  | lst xs =>
    cases y' with
    | int k =>
      obtain ⟨a, vs, rfl, ha, hr⟩ := tx
      obtain rfl := ty
      refine op_rep pins s σ H _ _ uv vv Q I ru rv ⟨a, k, vs, rfl, rfl, ha, h.1.1, h.1.2.1, by rw [hr.len]; exact h.1.2.2, fun p hp => ?_⟩
      exact post.lay rel h.2 hp (rep_lst (hr.rep _) (rel.fresh hp).1)
    | _ => exact h.elim
  | _ => exact h.elim
theorem div_ok : OpR X (binaryOp .FloorDiv) (R2D T divD) := by
  intro pins s σ H u v uv vv Q I ru rv ⟨G, C, x, y, K, rel, hx, hy, h, post⟩
  have tx := top_view rel hx
  have ty := top_view rel hy
  generalize ex : view C x = x' at h tx
  generalize ey : view C y = y' at h ty
  cases x' with
  | int i =>
    cases y' with
    | int j =>
      obtain rfl := tx; obtain rfl := ty
      rcases h.1 with ⟨z1, z2⟩ | ⟨z1, z2⟩
      · refine op_fdivN pins s σ H _ _ uv vv Q I ru rv ⟨i, j, rfl, rfl, ⟨z1, z2⟩, post.same rel h.2 ?_⟩
        show V.int _ = V.int _
        congr 1
        unfold fd
        split
        · rfl
        · exact Int.fdiv_eq_ediv_of_nonneg i (by omega)
      · refine op_fdivW pins s σ H _ _ uv vv Q I ru rv ⟨i, j, rfl, rfl, wide_div (b := 4000) z1 (by omega) (by decide) (by decide), post.same rel h.2 ?_⟩
        rw [fd_pos (by omega)]
        exact rfl
    | _ => exact h.elim
  | _ => exact h.elim
theorem mod_ok : OpR X (binaryOp .Mod) (R2D T modD) := by
  intro pins s σ H u v uv vv Q I ru rv ⟨G, C, x, y, K, rel, hx, hy, h, post⟩
  have tx := top_view rel hx
  have ty := top_view rel hy
  generalize ex : view C x = x' at h tx
  generalize ey : view C y = y' at h ty
  cases x' with
  | int i =>
    cases y' with
    | int j =>
      obtain rfl := tx; obtain rfl := ty
      refine op_modN pins s σ H _ _ uv vv Q I ru rv ⟨i, j, rfl, rfl, h.1, post.same rel h.2 ?_⟩
      show V.int _ = V.int _
      congr 1
      unfold fm
      split
      · rfl
      · exact Int.fmod_eq_emod_of_nonneg i (by omega)
    | _ => exact h.elim
  | _ => exact h.elim
theorem pow_ok : OpR X (binaryOp .Pow) (R2D T powD) := by
  intro pins s σ H u v uv vv Q I ru rv ⟨G, C, x, y, K, rel, hx, hy, h, post⟩
  have tx := top_view rel hx
  have ty := top_view rel hy
  generalize ex : view C x = x' at h tx
  generalize ey : view C y = y' at h ty
  cases x' with
  | int i =>
    cases y' with
    | int j =>
      obtain rfl := tx; obtain rfl := ty
      exact op_pow pins s σ H _ _ uv vv Q I ru rv ⟨i, j, rfl, rfl, h.1, post.same rel h.2 rfl⟩
    | _ => exact h.elim
  | _ => exact h.elim
theorem bin_ok (hK : X.K = T.K) (op : Operator) : OpR X (binaryOp op) (R2D T (binD op)) := by
  cases op with
  | Add => exact add_ok hK
  | Sub => exact sub_ok
  | Mult => exact mul_ok
  | FloorDiv => exact div_ok
  | Mod => exact mod_ok
  | Pow => exact pow_ok
  | _ => intro pins s σ H u v uv vv Q I ru rv ⟨G, C, x, y, K, rel, hx, hy, h, post⟩; exact h.elim

/-! ### comparisons -/
theorem eq_ok (hK : X.K = T.K) (hu : X.A.units + 65 < cLine) : OpR X (compareOp .Eq) (R2D T (cmpD .Eq)) := by
  intro pins s σ H u v uv vv Q I ru rv ⟨G, C, x, y, K, rel, hx, hy, h, post⟩
  have tx := top_view rel hx
  have ty := top_view rel hy
  have h' : eqD (view C x) (view C y) fun b => K (.bl b) := h
  clear h
  generalize ex : view C x = x' at h' tx
  generalize ey : view C y = y' at h' ty
  have gen : (Cmp x' ∧ Cmp y') ∧ K (.bl (eqP x' y')) → wpAny (model X.prog X.w) X.A (compareOp .Eq uv vv) (EP X pins σ Q) X.xe s := fun ⟨⟨c1, c2⟩, k⟩ =>
    op_eqD (by omega) pins s σ H _ _ uv vv Q I ru rv ⟨toPy x', toPy y', hK ▸ dp_top rel.sub c1.1 tx, hK ▸ dp_top rel.sub c2.1 ty, c1.2, c2.2, post.same rel k rfl⟩
  cases x' with
  | int i =>
    cases y' with
    | int j =>
      obtain rfl := tx; obtain rfl := ty
      refine op_eq pins s σ H _ _ uv vv Q I ru rv ⟨rfl, ?_⟩
      have e : decide (V.int i = V.int j) = decide (i = j) := by simp
      rw [e]
      exact post.same rel h' rfl
    | _ => exact gen ⟨⟨⟨rfl, rfl⟩, h'.1⟩, h'.2⟩
  | str i =>
    cases y' with
    | str j =>
      obtain rfl := tx; obtain rfl := ty
      refine op_eq pins s σ H _ _ uv vv Q I ru rv ⟨rfl, ?_⟩
      have e : decide (V.str i = V.str j) = decide (i = j) := by simp
      rw [e]
      exact post.same rel h' rfl
    | _ => exact gen h'
  | _ => exact gen h'
theorem ne_ok (hK : X.K = T.K) (hu : X.A.units + 65 < cLine) : OpR X (compareOp .NotEq) (R2D T (cmpD .NotEq)) := by
  intro pins s σ H u v uv vv Q I ru rv ⟨G, C, x, y, K, rel, hx, hy, h, post⟩
  have tx := top_view rel hx
  have ty := top_view rel hy
  have h' : eqD (view C x) (view C y) fun b => K (.bl (!b)) := h
  clear h
  generalize ex : view C x = x' at h' tx
  generalize ey : view C y = y' at h' ty
  have gen : (Cmp x' ∧ Cmp y') ∧ K (.bl (!eqP x' y')) → wpAny (model X.prog X.w) X.A (compareOp .NotEq uv vv) (EP X pins σ Q) X.xe s := fun ⟨⟨c1, c2⟩, k⟩ =>
    op_neD (by omega) pins s σ H _ _ uv vv Q I ru rv ⟨toPy x', toPy y', hK ▸ dp_top rel.sub c1.1 tx, hK ▸ dp_top rel.sub c2.1 ty, c1.2, c2.2, post.same rel k rfl⟩
  cases x' with
  | int i =>
    cases y' with
    | int j =>
      obtain rfl := tx; obtain rfl := ty
      refine op_ne pins s σ H _ _ uv vv Q I ru rv ⟨rfl, ?_⟩
      have e : decide (V.int i = V.int j) = decide (i = j) := by simp
      rw [e]
      exact post.same rel h' rfl
    | _ => exact gen ⟨⟨⟨rfl, rfl⟩, h'.1⟩, h'.2⟩
  | str i =>
    cases y' with
    | str j =>
      obtain rfl := tx; obtain rfl := ty
      refine op_ne pins s σ H _ _ uv vv Q I ru rv ⟨rfl, ?_⟩
      have e : decide (V.str i = V.str j) = decide (i = j) := by simp
      rw [e]
      exact post.same rel h' rfl
    | _ => exact gen h'
  | _ => exact gen h'
theorem ord_ok {op : CmpOp} (ho : op = .Lt ∨ op = .LtE ∨ op = .Gt ∨ op = .GtE) : OpR X (compareOp op) (R2D T (cmpD op)) := by
  intro pins s σ H u v uv vv Q I ru rv ⟨G, C, x, y, K, rel, hx, hy, h, post⟩
  have tx := top_view rel hx
  have ty := top_view rel hy
  have h' : ordD op (view C x) (view C y) fun b => K (.bl b) := by
    rcases ho with rfl | rfl | rfl | rfl <;> exact h
  clear h
  generalize ex : view C x = x' at h' tx
  generalize ey : view C y = y' at h' ty
  cases x' with
  | int i =>
    cases y' with
    | int j =>
      obtain rfl := tx; obtain rfl := ty
      rcases ho with rfl | rfl | rfl | rfl
      · exact op_lt pins s σ H _ _ uv vv Q I ru rv ⟨i, j, rfl, rfl, post.same rel h' rfl⟩
      · exact op_le pins s σ H _ _ uv vv Q I ru rv ⟨i, j, rfl, rfl, post.same rel h' rfl⟩
      · exact op_gt pins s σ H _ _ uv vv Q I ru rv ⟨i, j, rfl, rfl, post.same rel h' rfl⟩
      · exact op_ge pins s σ H _ _ uv vv Q I ru rv ⟨i, j, rfl, rfl, post.same rel h' rfl⟩
    | _ => exact h'.elim
  | _ => exact h'.elim
theorem is_ok {op : CmpOp} (ho : op = .Is ∨ op = .IsNot) : OpR X (compareOp op) (R2D T (cmpD op)) := by
  intro pins s σ H u v uv vv Q I ru rv ⟨G, C, x, y, K, rel, hx, hy, h, post⟩
  have tx := top_view rel hx
  have ty := top_view rel hy
  generalize ex : view C x = x' at h tx
  generalize ey : view C y = y' at h ty
  have e := isNon_rep tx
  rcases ho with rfl | rfl
  · cases y' with
    | non =>
      obtain rfl := ty
      refine op_isN pins s σ H _ _ uv vv Q I ru rv ⟨rfl, ?_⟩
      rw [e]
      exact post.same rel (show K (.bl (isNon x')) from h) rfl
    | _ => exact (show False from h).elim
  · cases y' with
    | non =>
      obtain rfl := ty
      refine op_notN pins s σ H _ _ uv vv Q I ru rv ⟨rfl, ?_⟩
      rw [e]
      exact post.same rel (show K (.bl (!isNon x')) from h) rfl
    | _ => exact (show False from h).elim
theorem keyD_of {G H : Hp} {y : D} {v : V} {K : Key → Prop} (h : keyD y K) (ht : Top T G H y v) : ∃ k, v = kV k ∧ K k := by
  cases y with
  | int i => obtain rfl := ht; exact ⟨.inl i, rfl, h⟩
  | str i => obtain rfl := ht; exact ⟨.inr i, rfl, h⟩
  | _ => exact h.elim
theorem in_ok (hK : X.K = T.K) (hu : X.A.units + 65 < cLine) {neg : Bool} : OpR X (compareOp (if neg then .NotIn else .In)) (R2D T (cmpD (if neg then .NotIn else .In))) := by
  intro pins s σ H u v uv vv Q I ru rv ⟨G, C, x, y, K, rel, hx, hy, h, post⟩
  have tx := top_view rel hx
  have ty := top_view rel hy
  have h' : inD (view C x) (view C y) fun b => K (.bl (if neg then !b else b)) := by cases neg <;> exact h
  clear h
  generalize ex : view C x = x' at h' tx
  generalize ey : view C y = y' at h' ty
  have flat : ∀ {p : Addr} {ys : List D} {ws : List V}, v = .ref p → (SqL X.K H p ws ∨ SqT X.K H p ws) → Reps T G ys ws → flatD x' = true → ys.all flatD = true → K (.bl (if neg then !(ys.any fun z => eqF z x') else ys.any fun z => eqF z x')) →
      wpAny (model X.prog X.w) X.A (compareOp (if neg then .NotIn else .In) uv vv) (EP X pins σ Q) X.xe s := fun {p ys ws} e hq hr f1 f2 k => by
    have hx' : Rep T G x' u := by
      cases x' with
      | non => exact tx
      | bl _ => exact tx
      | int _ => exact tx
      | str _ => exact tx
      | _ => cases f1
    have e1 := any_rep f1 hx' f2 hr
    cases neg with
    | false => exact op_in_seq pins s σ H _ _ uv vv Q I ru rv ⟨p, ws, e, hq, (flat_rep f1 hx').1, flat_all f2 hr, by rw [e1]; exact post.same rel k rfl⟩
    | true => exact op_notIn_seq pins s σ H _ _ uv vv Q I ru rv ⟨p, ws, e, hq, (flat_rep f1 hx').1, flat_all f2 hr, by rw [e1]; exact post.same rel k rfl⟩
  cases y' with
  | lst ys =>
    have h2 : wIf (flatD x' && ys.all flatD) (K (.bl (if neg then !(ys.any fun z => eqF z x') else ys.any fun z => eqF z x'))) ((Cmp x' ∧ Cmp (.lst ys)) ∧ K (.bl (if neg then !(ys.any fun z => eqP z x') else ys.any fun z => eqP z x'))) := h'
    cases q : (flatD x' && ys.all flatD) with
    | true =>
      rw [q] at h2
      rw [Bool.and_eq_true] at q
      obtain ⟨a, ws, e, ha, hr⟩ := ty
      exact flat e (.inl (SqL.of ha)) hr q.1 q.2 h2
    | false =>
      rw [q] at h2
      obtain ⟨⟨c1, c2⟩, k⟩ : (Cmp x' ∧ Cmp (.lst ys)) ∧ K (.bl (if neg then !(ys.any fun z => eqP z x') else ys.any fun z => eqP z x')) := h2
      have d1 : Dp X.K H u (toPy x') := hK ▸ dp_top rel.sub c1.1 tx
      have d2 : Dp X.K H v (.list (toPys ys)) := hK ▸ dp_top rel.sub c2.1 ty
      have ea : ∀ zs : List D, ((toPys zs).any fun z => PyData.eqv z (toPy x')) = zs.any fun z => eqP z x' := fun zs => by
        induction zs with
        | nil => rfl
        | cons z zs ih =>
          show ((toPy z :: toPys zs).any fun z => PyData.eqv z (toPy x')) = _
          rw [List.any_cons, List.any_cons, ih]
          rfl
      cases neg with
      | false => exact op_inD hu pins s σ H _ _ uv vv Q I ru rv ⟨toPy x', toPys ys, d1, d2, c1.2, c2.2, by rw [ea]; exact post.same rel k rfl⟩
      | true => exact op_notInD hu pins s σ H _ _ uv vv Q I ru rv ⟨toPy x', toPys ys, d1, d2, c1.2, c2.2, by rw [ea]; exact post.same rel k rfl⟩
  | tup ys =>
    obtain ⟨⟨f1, f2⟩, k⟩ : (flatD x' = true ∧ ys.all flatD = true) ∧ K (.bl (if neg then !(ys.any fun z => eqF z x') else ys.any fun z => eqF z x')) := h'
    obtain ⟨a, ws, e, ha, hr⟩ := ty
    exact flat e (.inr (hK ▸ ha)) hr f1 f2 k
  | dct ks ds =>
    obtain ⟨k, ek, hk⟩ := keyD_of (show keyD x' fun k => K (.bl (if neg then !(dget ks ds k).isSome else (dget ks ds k).isSome)) from h') tx
    subst ek
    obtain ⟨a, kvs, e, ha, e1, hr⟩ := ty
    subst e e1
    obtain rfl : vv = Value.ref a := rv
    have g := DGet.k (k := k) ha
    have eo : (valV kvs k).isSome = (dget (kvs.map (·.1)) ds k).isSome := by
      rcases dget_val hr k with ⟨z1, z2⟩ | ⟨d, w, z1, z2, _⟩
      · rw [z1, z2]; rfl
      · rw [z1, z2]; rfl
    rw [← eo] at hk
    cases neg with
    | false => exact d_in (by omega) I g ru fun s' I' => ⟨.bl _, H, I', rfl, post.same rel hk rfl⟩
    | true => exact d_notIn (by omega) I g ru fun s' I' => ⟨.bl _, H, I', rfl, post.same rel hk rfl⟩
  | _ => exact (show False from h').elim
theorem cmp_ok (hK : X.K = T.K) (hu : X.A.units + 65 < cLine) (op : CmpOp) : OpR X (compareOp op) (R2D T (cmpD op)) := by
  cases op with
  | Eq => exact eq_ok hK hu
  | NotEq => exact ne_ok hK hu
  | Lt => exact ord_ok (.inl rfl)
  | LtE => exact ord_ok (.inr (.inl rfl))
  | Gt => exact ord_ok (.inr (.inr (.inl rfl)))
  | GtE => exact ord_ok (.inr (.inr (.inr rfl)))
  | Is => exact is_ok (.inl rfl)
  | IsNot => exact is_ok (.inr rfl)
  | In => exact in_ok (neg := false) hK hu
  | NotIn => exact in_ok (neg := true) hK hu
end
end Mp

set_option Elab.async false
set_option linter.all false
set_option maxRecDepth 100000
set_option maxHeartbeats 4000000
/-! Mp, part D1: min of a list of pairs of ints. -/
namespace Mp
open PySem PySem.Spec L2
theorem lexP (p q : Int × Int) : HT.lexLt [p.1, p.2] [q.1, q.2] = true ↔ ¬ leP q p := by
  unfold leP
  rw [HT.lexLt_cons, HT.lexLt_cons, HT.lexLt_nil_nil]
  by_cases h : p.1 = q.1
  · rw [if_pos h]
    by_cases h2 : p.2 = q.2
    · rw [if_pos h2]
      constructor
      · intro z; cases z
      · intro z; omega
    · rw [if_neg h2, decide_eq_true_eq]
      omega
  · rw [if_neg h, decide_eq_true_eq]
    omega
theorem best_pairs (g : Nat → Int × Int) : ∀ k, argBest (fun i j => HT.lexLt [(g i).1, (g i).2] [(g j).1, (g j).2]) k ≤ k ∧ ∀ j, j ≤ k → leP (g (argBest (fun i j => HT.lexLt [(g i).1, (g i).2] [(g j).1, (g j).2]) k)) (g j)
  | 0 => ⟨Nat.le_refl 0, fun j hj => by
    obtain rfl : j = 0 := by omega
    exact .inr ⟨rfl, Int.le_refl _⟩⟩
  | k + 1 => by
    obtain ⟨h1, h2⟩ := best_pairs g k
    unfold argBest
    generalize argBest (fun i j => HT.lexLt [(g i).1, (g i).2] [(g j).1, (g j).2]) k = b at *
    by_cases hc : HT.lexLt [(g (k + 1)).1, (g (k + 1)).2] [(g b).1, (g b).2] = true
    · rw [if_pos hc]
      refine ⟨Nat.le_refl _, fun j hj => ?_⟩
      have hc := (lexP _ _).mp hc
      rcases Nat.lt_or_ge j (k + 1) with q | q
      · have := h2 j (by omega)
        unfold leP at *
        omega
      · obtain rfl : j = k + 1 := by omega
        exact .inr ⟨rfl, Int.le_refl _⟩
    · rw [if_neg hc]
      refine ⟨by omega, fun j hj => ?_⟩
      rcases Nat.lt_or_ge j (k + 1) with q | q
      · exact h2 j (by omega)
      · obtain rfl : j = k + 1 := by omega
        rw [lexP] at hc
        exact Classical.not_not.mp hc
section
variable {X : Cx} {T : Tb} {G : Hp} {C : Cs}
theorem pair_reps : ∀ {ps : List (Int × Int)} {vs : List V}, Reps T G (ps.map pairD) vs → ∀ (i : Nat) (v : V), vs[i]? = some v → ∃ p, ps[i]? = some p ∧ Rep T G (pairD p) v := fun {ps vs} h i v e => by
  obtain ⟨d, e1, e2⟩ := h.getV e
  rw [List.getElem?_map] at e1
  obtain ⟨p, e3, rfl⟩ := Option.map_eq_some_iff.mp e1
  exact ⟨p, e3, e2⟩
/-- min(xs) of a list of pairs -/
theorem min_pairs (hK : X.K = T.K) (hc : X.calm = true) (hu : X.A.units + 65 < cLine) {pins : List (Addr × Obj)} {s : Shared} {σ : List (Option V)} {H : Hp} {a : Addr} {ps : List (Int × Int)} {vs : List V} {Q : V → Hp → Prop} {E : Value → Shared → Prop}
    (I : Inv X pins σ H s) (sub : Same G H) (ha : H a = some (.lst vs)) (hr : Reps T G (ps.map pairD) vs) (hne : ps ≠ []) (q : ∀ p v, p ∈ ps → (∀ y ∈ ps, leP p y) → Rep T G (pairD p) v → Q v H) :
    wpAny (model X.prog X.w) X.A (call (.builtin "min") [.ref a]) (EP X pins σ Q) E s := by
  obtain ⟨its, rv, pl, _⟩ := I.list (SqL.of ha)
  have hlen : vs.length = ps.length := by rw [hr.len, List.length_map]
  have hil := rv.length
  have hpos : 0 < ps.length := List.length_pos_iff.mpr hne
  refine PySem.call_min_walkH (PySem.W.iter_listW (A := X.A.in1) (I.ok.hd hc) pl.isList fun s2 e W st low nw kp => ?_)
  let g : Nat → Int × Int := fun i => ps.getD i (0, 0)
  have at_ : ∀ (i : Nat) (u : Value), its.toArray[i]? = some u → ∃ v p b its2, vs[i]? = some v ∧ RelV v u ∧ ps[i]? = some p ∧ Rep T G (pairD p) v ∧ u = .ref b ∧ PyProof.Rows.IsTup s.heap b its2 ∧ PyProof.Rows.IntsAre its2.toList [p.1, p.2] := fun i u hi => by
    have hi : its[i]? = some u := by simpa using hi
    have hl : i < vs.length := by
      have := (List.getElem?_eq_some_iff.mp hi).1
      omega
    have ev : vs[i]? = some vs[i] := by simp [hl]
    obtain ⟨u', hu', ru⟩ := rv.get ev
    rw [hi] at hu'
    cases hu'
    obtain ⟨p, ep, rp⟩ := pair_reps hr i _ ev
    have rp' := rp
    obtain ⟨b, ws, eb, hs, hws⟩ := rp'
    have ru' := ru
    rw [eb] at ru
    cases ru
    have hws : ws = [.int p.1, .int p.2] := Reps.ints (ns := [p.1, p.2]) hws
    subst hws
    obtain ⟨its2, r2, t2, _⟩ := I.tuple (sqt_up sub (hK ▸ hs))
    exact ⟨_, p, b, its2.toArray, ev, ru', ep, rp, rfl, t2, intsAre_of (ns := [p.1, p.2]) r2⟩
  have cmp : PySem.CmpIn X.prog X.w X.A.in1 .Lt s.heap (fun i v => its.toArray[i]? = some v) fun i j => HT.lexLt [(g i).1, (g i).2] [(g j).1, (g j).2] := fun i j vi vj s' Q' E' old hi hj hq => by
    obtain ⟨_, p, b, t1, _, _, e1, _, rfl, z1, z2⟩ := at_ i vi hi
    obtain ⟨_, p', b', t2, _, _, e2, _, rfl, y1, y2⟩ := at_ j vj hj
    have k1 : PyProof.Rows.IsTup s'.heap b t1 := by
      obtain ⟨o, w1, w2⟩ := z1
      exact ⟨o, old _ _ w1, w2⟩
    have k2 : PyProof.Rows.IsTup s'.heap b' t2 := by
      obtain ⟨o, w1, w2⟩ := y1
      exact ⟨o, old _ _ w1, w2⟩
    refine HT.lt_tupInts k1 k2 z2 y2 (by show X.A.units + 1 < cLine; omega) ?_
    have g1 : g i = p := by show ps.getD i _ = p; rw [List.getD_eq_getElem?_getD, e1]; rfl
    have g2 : g j = p' := by show ps.getD j _ = p'; rw [List.getD_eq_getElem?_getD, e2]; rfl
    dsimp only at hq
    rw [g1, g2] at hq
    exact hq
  refine ⟨_, _, _, _, _, _, _, s.heap, _, rfl, W, st, low, by rw [List.size_toArray, ← hil, hlen]; exact hpos, nw, kp, cmp, fun u s3 hP mv => ?_⟩
  obtain ⟨h3, tk, rfl, kept⟩ := PySem.W.moved_old e rfl mv
  have hsz : its.toArray.size - 1 = ps.length - 1 := by rw [List.size_toArray, ← hil, hlen]
  obtain ⟨b1, b2⟩ := best_pairs g (its.toArray.size - 1)
  obtain ⟨v, p, b, t1, ev, rv1, e1, rp, _⟩ := at_ _ u hP
  refine ⟨v, H, I.kept kept, rv1, q p v (List.mem_of_getElem? e1) (fun y hy => ?_) rp⟩
  obtain ⟨j, hj, rfl⟩ := List.getElem_of_mem hy
  have := b2 j (by omega)
  have g1 : g (argBest (fun i j => HT.lexLt [(g i).1, (g i).2] [(g j).1, (g j).2]) (its.toArray.size - 1)) = p := by
    show ps.getD _ _ = p
    rw [List.getD_eq_getElem?_getD, e1]
    rfl
  have g2 : g j = ps[j] := by
    show ps.getD _ _ = _
    rw [List.getD_eq_getElem?_getD, List.getElem?_eq_getElem hj]
    rfl
  rw [g1, g2] at this
  exact this
/-- sum(t), min(t) of a tuple of ints -/
theorem tup_vals {pins : List (Addr × Obj)} {s : Shared} {σ : List (Option V)} {H : Hp} {a : Addr} {ns : List Int} (I : Inv X pins σ H s) (ha : SqT X.K H a (ns.map V.int)) :
    ∃ xs : Array (Int × Tok), s.heap.IsTuple a (intItems xs) ∧ numsOf (intItems xs).toList = ns ∧ xs.size = ns.length := by
  obtain ⟨its, rv, it, _⟩ := I.tuple ha
  have hi := rv.ints
  obtain ⟨xs, e⟩ := hi.allInts.items
  refine ⟨xs, ?_, ?_, ?_⟩
  · rw [← e]
    obtain ⟨o, w1, w2, n, w3⟩ := it
    exact ⟨o, w1, w2, n, w3⟩
  · rw [← e]
    exact hi.numsOf
  · have h1 := congrArg Array.size e
    rw [List.size_toArray] at h1
    have h2 := rv.length
    rw [List.length_map] at h2
    simp [intItems] at h1
    omega
theorem tup_kept {s : Shared} {l : Addr} {h' : Heap} (kp : ∀ b o, b ∉ [s.heap.objs.size] → (s.heap.push { cls := .type "tuple_iterator", data := .fields #[.ref l, .int 0 0] }).get? b = some o → h'.get? b = some o) : ∀ b o, s.heap.get? b = some o → h'.get? b = some o := fun b o e =>
  kp b o (fun z => absurd (Heap.lt_size e) (by rw [List.mem_singleton.mp z]; exact Nat.lt_irrefl _)) (Heap.get?_push_of_some _ e)
theorem sum_tup (hc : X.calm = true) {pins : List (Addr × Obj)} {s : Shared} {σ : List (Option V)} {H : Hp} {a : Addr} {ns : List Int} {Q : V → Hp → Prop} {E : Value → Shared → Prop} (I : Inv X pins σ H s) (ha : SqT X.K H a (ns.map V.int)) (q : Q (.int ns.sum) H) :
    wpAny (model X.prog X.w) X.A (call (.builtin "sum") [.ref a]) (EP X pins σ Q) E s := by
  obtain ⟨xs, it, en, _⟩ := tup_vals I ha
  have lt : a < s.heap.objs.size := by
    obtain ⟨_, e, _⟩ := it
    exact Heap.lt_size e
  refine call_sum_walkG (wpAny_pyIter_tuple it ?_)
  refine ⟨_, _, _, _, _, _, numAt xs, rfl, Walks.tuple (A := X.A.in1) (I.ok.hd hc) _ a (Nat.ne_of_lt lt) (intItems xs), ⟨⟨_, Heap.get?_push_size _ rfl, rfl, rfl⟩, it.push _⟩, fun b hb => ?_, fun _ _ => intItems_at, fun h' tk t' kp => ?_⟩
  · show b < (s.heap.push _).objs.size
    rw [Heap.size_push]
    simp only [List.mem_cons, List.not_mem_nil, or_false] at hb
    rcases hb with rfl | rfl
    · exact Nat.lt_succ_self _
    · exact Nat.lt_succ_of_lt lt
  · have := q
    rw [← en, PySem.nums_intItems] at this
    refine ⟨.int _, H, I.kept (tup_kept kp), ⟨_, rfl⟩, ?_⟩
    rw [PySem.preSum_eq, List.take_of_length_le (by simp [intItems])]
    exact this
theorem min_tup (hc : X.calm = true) {pins : List (Addr × Obj)} {s : Shared} {σ : List (Option V)} {H : Hp} {a : Addr} {ns : List Int} {Q : V → Hp → Prop} {E : Value → Shared → Prop} (I : Inv X pins σ H s) (ha : SqT X.K H a (ns.map V.int)) (hne : 0 < ns.length)
    (q : ∀ m, m ∈ ns → (∀ y ∈ ns, m ≤ y) → Q (.int m) H) : wpAny (model X.prog X.w) X.A (call (.builtin "min") [.ref a]) (EP X pins σ Q) E s := by
  obtain ⟨xs, it, en, el⟩ := tup_vals I ha
  have lt : a < s.heap.objs.size := by
    obtain ⟨_, e, _⟩ := it
    exact Heap.lt_size e
  refine call_min_walk (wpAny_pyIter_tuple it ?_)
  refine ⟨_, _, _, _, _, _, _, rfl, Walks.tuple (A := X.A.in1) (I.ok.hd hc) _ a (Nat.ne_of_lt lt) (intItems xs), ⟨⟨_, Heap.get?_push_size _ rfl, rfl, rfl⟩, it.push _⟩, fun b hb => ?_, by simp only [intItems, Array.size_map]; omega, CmpOf.ints_lt (numAt xs) (fun _ _ => intItems_at), fun v h' tk hv kp => ?_⟩
  · show b < (s.heap.push _).objs.size
    rw [Heap.size_push]
    simp only [List.mem_cons, List.not_mem_nil, or_false] at hb
    rcases hb with rfl | rfl
    · exact Nat.lt_succ_self _
    · exact Nat.lt_succ_of_lt lt
  · obtain ⟨t, rfl⟩ := intItems_at hv
    have hv1 := (Array.getElem?_eq_some_iff.mp hv).1
    have z : (intItems xs).size = xs.size := by simp [intItems]
    obtain ⟨b1, b2⟩ := PySem.argBest_lt (numAt xs) ((intItems xs).size - 1)
    rw [PySem.nums_intItems] at en
    have eg : ∀ j, j < xs.size → numAt xs j = ns.getD j 0 := fun j hj => by rw [PySem.numAt_eq, en]
    have k1 : argBest (fun i j => decide (numAt xs i < numAt xs j)) ((intItems xs).size - 1) < xs.size := by omega
    refine ⟨.int _, H, I.kept (tup_kept kp), ⟨_, rfl⟩, q _ ?_ fun y hy => ?_⟩
    · rw [eg _ k1]
      exact PySem.getD_mem (by omega)
    · obtain ⟨j, hj, rfl⟩ := List.getElem_of_mem hy
      have := b2 j (by omega)
      rw [eg j (by omega), List.getD_eq_getElem?_getD, List.getElem?_eq_getElem hj] at this
      exact this
end
end Mp

set_option Elab.async false
set_option linter.all false
set_option maxRecDepth 100000
set_option maxHeartbeats 4000000
/-! Mp, part D: subscripts, slices, calls of built-in things, stores, on plain data. -/
namespace Mp
open PySem PySem.Spec L2

theorem atI_map {α β : Type} (f : α → β) (xs : List α) (i : Int) : atI (xs.map f) i = (atI xs i).map f := by
  unfold atI
  rw [List.length_map]
  cases ixN xs.length i with
  | none => rfl
  | some j => simp
theorem atI_rep {T : Tb} {G : Hp} {ds : List D} {vs : List V} {i : Int} {d : D} (h : Reps T G ds vs) (e : atI ds i = some d) : ∃ v, atI vs i = some v ∧ Rep T G d v := by
  unfold atI at e ⊢
  rw [h.len]
  cases q : ixN ds.length i with
  | none => rw [q] at e; cases e
  | some j =>
    rw [q] at e
    exact h.get e
theorem cut_rep {T : Tb} {G : Hp} {ds : List D} {vs : List V} (lo hi : Option Int) (h : Reps T G ds vs) : Reps T G (cutD ds lo hi) (cutV vs lo hi) := by
  unfold cutD cutV
  rw [h.len]
  exact Reps.take _ (Reps.drop _ h)

section
variable {X : Cx} {T : Tb}
theorem idx_ok (hK : X.K = T.K) (hu : X.A.units + 65 < cLine) : IxR X (R2D T idxD) := by
  intro value slice pins s σ H u v uv vv Q I ru rv ⟨G, C, x, y, K, rel, hx, hy, h, post⟩ hs
  have tx := top_view rel hx
  have ty := top_view rel hy
  generalize ex : view C x = x' at h tx
  generalize ey : view C y = y' at h ty
  cases x' with
  | scr ns =>
    cases y' with
    | int i =>
      obtain ⟨a, rfl, ha⟩ := tx
      obtain rfl := ty
      obtain ⟨d, e, k⟩ := h
      refine ix_list value slice pins s σ H _ _ uv vv Q I ru rv ⟨a, _, i, .int d, rfl, rfl, hK ▸ ha, ?_, post.same rel k rfl⟩ hs
      rw [atI_map, e]
      rfl
    | _ => exact h.elim
  | lst ds =>
    cases y' with
    | int i =>
      obtain ⟨a, vs, rfl, ha, hr⟩ := tx
      obtain rfl := ty
      obtain ⟨d, e, k⟩ := h
      obtain ⟨w, e2, hw⟩ := atI_rep hr e
      exact ix_list value slice pins s σ H _ _ uv vv Q I ru rv ⟨a, _, i, w, rfl, rfl, SqL.of ha, e2, post.same rel k hw⟩ hs
    | _ => exact h.elim
  | tup ds =>
    cases y' with
    | int i =>
      obtain ⟨a, vs, rfl, ha, hr⟩ := tx
      obtain rfl := ty
      obtain ⟨d, e, k⟩ := h
      obtain ⟨w, e2, hw⟩ := atI_rep hr e
      exact ix_tup value slice pins s σ H _ _ uv vv Q I ru rv ⟨a, _, i, w, rfl, rfl, hK ▸ ha, e2, post.same rel k hw⟩ hs
    | _ => exact h.elim
  | str z =>
    cases y' with
    | int i =>
      obtain rfl := tx
      obtain rfl := ty
      obtain ⟨hz, c, e, k⟩ := h
      exact ix_str value slice pins s σ H _ _ uv vv Q I ru rv ⟨z, i, c, rfl, rfl, hz, e, post.same rel k rfl⟩ hs
    | _ => exact h.elim
  | dct ks ds =>
    obtain ⟨k, ek, d, e, hk⟩ := keyD_of (show keyD y' fun k => ∃ d, dget ks ds k = some d ∧ K d from h) ty
    subst ek
    obtain ⟨a, kvs, e1, ha, e2, hr⟩ := tx
    subst e1 e2
    obtain rfl : uv = Value.ref a := ru
    rcases dget_val hr k with ⟨z1, z2⟩ | ⟨d', w, z1, z2, hw⟩
    · rw [z1] at e; cases e
    · rw [z1] at e; cases e
      have g : DGet H a (kV k) (some w) := z2 ▸ DGet.k ha
      exact PyProof.Rows.tail_any (dict_typeIs I g) PySem.F.slot_dict_getitem.lookup (d_getItem (by omega) I g rv fun w' s' I' rw' => ⟨w, H, I', rw', post.same rel hk hw⟩) hs
  | _ => exact h.elim
/-- a slice, by data -/
theorem sli_ok (hK : X.K = T.K) : SlR X (fun u lo hi H Q => ∃ (G : Hp) (C : Cs) (x : D) (K : D → Prop), Rel T G H C ∧ Rep T G x u ∧ sliD (view C x) lo hi K ∧ Post T G H C K Q) := by
  intro pins s σ H u uv vl vu lo hi sl Q I ru hs pl pu ⟨G, C, x, K, rel, hx, h, post⟩
  have tx := top_view rel hx
  generalize ex : view C x = x' at h tx
  cases x' with
  | scr ns =>
    obtain ⟨a, rfl, ha⟩ := tx
    refine sl_list pins s σ H _ uv vl vu lo hi sl Q I ru hs pl pu ⟨a, _, rfl, hK ▸ ha, fun p hp => ?_⟩
    exact post.lay rel (show K (.lst (cutD (ns.map D.int) lo hi)) from h) hp (rep_lst (cut_rep lo hi (Reps.ofInts ns)) (rel.fresh hp).1)
  | lst ds =>
    obtain ⟨a, vs, rfl, ha, hr⟩ := tx
    refine sl_list pins s σ H _ uv vl vu lo hi sl Q I ru hs pl pu ⟨a, _, rfl, SqL.of ha, fun p hp => ?_⟩
    exact post.lay rel h hp (rep_lst (cut_rep lo hi hr) (rel.fresh hp).1)
  | tup ds =>
    obtain rfl := view_tup ex
    obtain ⟨a, vs, rfl, ha, hr⟩ := tx
    refine sl_tupA pins s σ H _ uv vl vu lo hi sl Q I ru hs pl pu ⟨a, vs, rfl, hK ▸ ha, fun ⟨z1, z2⟩ => ?_, fun _ p hp => ?_⟩
    · refine post.same rel h ?_
      have e : cutD ds lo hi = ds := by
        unfold cutD
        rw [hr.len] at z1 z2
        rw [z1, z2, List.drop_zero, Nat.sub_zero, List.take_length]
      rw [e]
      exact hx
    · exact post.lay rel h hp (rep_tup (cut_rep lo hi hr) (rel.fresh hp).1)
  | _ => exact h.elim
/-- a value's truth -/
theorem tru_of {G H : Hp} {C : Cs} (hK : X.K = T.K) (rel : Rel T G H C) {x : D} {u : V} {K : Bool → Prop} (hx : Rep T G x u) (h : wTru (view C x) K) : ∃ b, TruV X.K u H b ∧ K b := by
  have tx := top_view rel hx
  generalize view C x = x' at h tx
  cases x' with
  | non => obtain rfl := tx; exact ⟨_, rfl, h⟩
  | bl b => obtain rfl := tx; exact ⟨_, rfl, h⟩
  | int b => obtain rfl := tx; exact ⟨_, rfl, h⟩
  | str b => obtain rfl := tx; exact ⟨_, ⟨h.1, rfl⟩, h.2⟩
  | tup ds =>
    obtain ⟨a, vs, rfl, ha, hr⟩ := tx
    refine ⟨!ds.isEmpty, .inr (.inl ⟨vs, hK ▸ ha, ?_⟩), h⟩
    have := hr.len
    cases ds <;> cases vs <;> simp_all
  | lst ds =>
    obtain ⟨a, vs, rfl, ha, hr⟩ := tx
    refine ⟨!ds.isEmpty, .inl ⟨vs, SqL.of ha, ?_⟩, h⟩
    have := hr.len
    cases ds <;> cases vs <;> simp_all
  | dct ks ds =>
    obtain ⟨a, kvs, rfl, ha, e, hr⟩ := tx
    refine ⟨!ks.isEmpty, .inr (.inr ⟨kvs, ha, ?_⟩), h⟩
    subst e
    cases kvs <;> rfl
  | _ => exact h.elim
end

/-! ### calls of built-in functions and types -/
def rBi (T : Tb) (f : String) : List V → Hp → VK → Prop := fun us H Q => ∃ (G : Hp) (C : Cs) (ds : List D) (K : D → Prop), Rel T G H C ∧ Reps T G ds us ∧ biD f (ds.map (view C)) K ∧ Post T G H C K Q
section
variable {T : Tb} {G H : Hp} {C : Cs}
theorem view1 {ds : List D} {us : List V} {x' : D} (rel : Rel T G H C) (hr : Reps T G ds us) (e : ds.map (view C) = [x']) : ∃ x u, ds = [x] ∧ us = [u] ∧ view C x = x' ∧ Rep T G x u ∧ Top T G H x' u := by
  cases ds with
  | nil => cases e
  | cons x ds =>
    cases ds with
    | nil =>
      rw [List.map_cons, List.map_nil] at e
      injection e with e1 _
      obtain ⟨u, r, rfl, h2, h3⟩ := hr
      obtain rfl : r = [] := h3
      exact ⟨x, u, rfl, rfl, e1, h2, e1 ▸ top_view rel h2⟩
    | cons y ds =>
      rw [List.map_cons, List.map_cons] at e
      injection e with _ e2
      cases e2
theorem view2 {ds : List D} {us : List V} {x' y' : D} (rel : Rel T G H C) (hr : Reps T G ds us) (e : ds.map (view C) = [x', y']) : ∃ u v, us = [u, v] ∧ Top T G H x' u ∧ Top T G H y' v := by
  cases ds with
  | nil => cases e
  | cons x ds =>
    rw [List.map_cons] at e
    injection e with e1 e2
    obtain ⟨u, r, rfl, h2, h3⟩ := hr
    obtain ⟨_, v, _, rfl, _, _, t2⟩ := view1 rel h3 e2
    exact ⟨u, v, rfl, e1 ▸ top_view rel h2, t2⟩
theorem top_ints {u : V} {ns : List Int} (h : Top T G H (.lst (ns.map D.int)) u) : ∃ a, u = .ref a ∧ H a = some (.lst (ns.map V.int)) := by
  obtain ⟨a, vs, rfl, ha, hr⟩ := h
  rw [hr.ints] at ha
  exact ⟨a, rfl, ha⟩
theorem top_bls {u : V} {ns : List Bool} (h : Top T G H (.lst (ns.map D.bl)) u) : ∃ a, u = .ref a ∧ H a = some (.lst (ns.map V.bl)) := by
  obtain ⟨a, vs, rfl, ha, hr⟩ := h
  rw [hr.bls] at ha
  exact ⟨a, rfl, ha⟩
theorem top_strs {u : V} {ns : List Str} (h : Top T G H (.lst (ns.map D.str)) u) : ∃ a, u = .ref a ∧ H a = some (.lst (ns.map V.str)) := by
  obtain ⟨a, vs, rfl, ha, hr⟩ := h
  rw [hr.strs] at ha
  exact ⟨a, rfl, ha⟩
end
section
variable {X : Cx} {T : Tb}
theorem len_ok (hK : X.K = T.K) : CallR X (.builtin "len") (rBi T "len") := by
  intro pins s σ H us uvs Q I ru ⟨G, C, ds, K, rel, hr, h, post⟩
  obtain ⟨x', e, h⟩ := h
  obtain ⟨x, u, rfl, rfl, _, _, t⟩ := view1 rel hr e
  cases x' with
  | str y =>
    obtain rfl := t
    exact call_len pins s σ H _ uvs Q I ru ⟨_, y.length, rfl, ⟨h.1, rfl⟩, post.same rel h.2 rfl⟩
  | scr ns =>
    obtain ⟨a, rfl, ha⟩ := t
    refine call_len pins s σ H _ uvs Q I ru ⟨_, ns.length, rfl, .inl ⟨_, hK ▸ ha, by rw [List.length_map]⟩, post.same rel (show K (.int ns.length) from h) rfl⟩
  | lst ds =>
    obtain ⟨a, vs, rfl, ha, hs⟩ := t
    exact call_len pins s σ H _ uvs Q I ru ⟨_, ds.length, rfl, .inl ⟨_, SqL.of ha, hs.len.symm⟩, post.same rel (show K (.int ds.length) from h) rfl⟩
  | tup ds =>
    obtain ⟨a, vs, rfl, ha, hs⟩ := t
    exact call_len pins s σ H _ uvs Q I ru ⟨_, ds.length, rfl, .inr ⟨_, hK ▸ ha, hs.len.symm⟩, post.same rel (show K (.int ds.length) from h) rfl⟩
  | dct ks ds =>
    obtain ⟨a, kvs, rfl, ha, e, hs⟩ := t
    subst e
    refine call_lenD pins s σ H _ uvs Q I ru ⟨_, kvs, rfl, ha, ?_⟩
    rw [← List.length_map (f := (·.1)) (as := kvs)]
    exact post.same rel h rfl
  | _ => exact (show False from h).elim
theorem abs_ok : CallR X (.builtin "abs") (rBi T "abs") := by
  intro pins s σ H us uvs Q I ru ⟨G, C, ds, K, rel, hr, h, post⟩
  obtain ⟨i, e, h⟩ := h
  obtain ⟨x, u, rfl, rfl, _, _, t⟩ := view1 rel hr e
  obtain rfl := t
  exact call_abs pins s σ H _ uvs Q I ru ⟨i, rfl, post.same rel h rfl⟩
theorem max_ok (hc : X.calm = true) : CallR X (.builtin "max") (rBi T "max") := by
  intro pins s σ H us uvs Q I ru ⟨G, C, ds, K, rel, hr, h, post⟩
  rcases h with ⟨i, j, e, h⟩ | ⟨ns, e, h0, h⟩
  · obtain ⟨u, v, rfl, t1, t2⟩ := view2 rel hr e
    obtain rfl := t1; obtain rfl := t2
    refine call_max2 hc pins s σ H _ uvs Q I ru ⟨i, j, rfl, ?_⟩
    have em : (if j > i then j else i) = max i j := by split <;> omega
    rw [em]
    exact post.same rel h rfl
  · obtain ⟨x, u, rfl, rfl, _, _, t⟩ := view1 rel hr e
    obtain ⟨a, rfl, ha⟩ := top_ints t
    exact cr_max hc pins s σ H _ uvs Q I ru ⟨a, ns, rfl, SqL.of ha, h0, fun m h1 h2 => post.same rel (h m h1 h2) rfl⟩
theorem min_ok (hK : X.K = T.K) (hc : X.calm = true) (hu : X.A.units + 65 < cLine) : CallR X (.builtin "min") (rBi T "min") := by
  intro pins s σ H us uvs Q I ru ⟨G, C, ds, K, rel, hr, h, post⟩
  rcases h with ⟨i, j, e, h⟩ | h
  · obtain ⟨u, v, rfl, t1, t2⟩ := view2 rel hr e
    obtain rfl := t1; obtain rfl := t2
    refine call_min2 hc pins s σ H _ uvs Q I ru ⟨i, j, rfl, ?_⟩
    have em : (if j < i then j else i) = min i j := by split <;> omega
    rw [em]
    exact post.same rel h rfl
  rcases h with ⟨ns, e, h0, h⟩ | ⟨ns, e, h0, h⟩ | ⟨ps, e, h0, h⟩
  · obtain ⟨x, u, rfl, rfl, _, _, t⟩ := view1 rel hr e
    obtain ⟨a, rfl, ha⟩ := top_ints t
    exact cr_min hc pins s σ H _ uvs Q I ru ⟨a, ns, rfl, SqL.of ha, h0, fun m h1 h2 => post.same rel (h m h1 h2) rfl⟩
  · obtain ⟨x, u, rfl, rfl, _, _, t⟩ := view1 rel hr e
    obtain ⟨a, vs, rfl, ha, hs⟩ := t
    rw [hs.ints] at ha
    rw [Vals.ref1 ru]
    exact min_tup hc I (hK ▸ ha) h0 fun m h1 h2 => post.same rel (h m h1 h2) rfl
  · obtain ⟨x, u, rfl, rfl, _, _, t⟩ := view1 rel hr e
    obtain ⟨a, vs, rfl, ha, hs⟩ := t
    rw [Vals.ref1 ru]
    exact min_pairs hK hc hu I rel.sub ha hs h0 fun p v h1 h2 rp => post.same rel (h p h1 h2) rp
theorem sum_ok (hK : X.K = T.K) (hc : X.calm = true) : CallR X (.builtin "sum") (rBi T "sum") := by
  intro pins s σ H us uvs Q I ru ⟨G, C, ds, K, rel, hr, h, post⟩
  obtain ⟨ns, e | e, h⟩ := h
  case inr =>
    obtain ⟨x, u, rfl, rfl, _, _, t⟩ := view1 rel hr e
    obtain ⟨a, vs, rfl, ha, hs⟩ := t
    rw [hs.ints] at ha
    rw [Vals.ref1 ru]
    exact sum_tup hc I (hK ▸ ha) (post.same rel h rfl)
  obtain ⟨x, u, rfl, rfl, _, _, t⟩ := view1 rel hr e
  obtain ⟨a, rfl, ha⟩ := top_ints t
  exact cr_sum hc pins s σ H _ uvs Q I ru ⟨a, ns, rfl, SqL.of ha, post.same rel h rfl⟩
theorem flatT_rep {G : Hp} : ∀ {d : D} {v : V}, flatT d = true → Rep T G d v → ∃ u : V, v = u ∧ (u = .non ∨ (∃ b, u = .bl b ∧ truD d = b) ∨ ∃ i, u = .int i ∧ truD d = (i != 0)) ∧ (u = .non → truD d = false) := by
  intro d v f h
  cases d with
  | non => exact ⟨v, rfl, .inl h, fun _ => rfl⟩
  | bl b => exact ⟨v, rfl, .inr (.inl ⟨b, h, rfl⟩), fun e => by rw [show v = .bl b from h] at e; cases e⟩
  | int i => exact ⟨v, rfl, .inr (.inr ⟨i, h, rfl⟩), fun e => by rw [show v = .int i from h] at e; cases e⟩
  | _ => cases f
theorem truth_flat {prog : Program} {w : World} {A : Around} {G : Hp} {ds : List D} {vs : List V} {its : List Value} (f : ds.all flatT = true) (hr : Reps T G ds vs) (rv : Vals vs its) :
    TruthOf prog w A (fun i v => its.toArray[i]? = some v) (fun i => truD (ds.getD i .non)) := fun i v s Q E hv hq => by
  have hv' : its[i]? = some v := by simpa using hv
  have hi : i < vs.length := by
    have := (List.getElem?_eq_some_iff.mp hv').1
    rw [← rv.length] at this
    exact this
  have ex : vs[i]? = some vs[i] := by simp [hi]
  obtain ⟨u, hu, ru⟩ := rv.get ex
  rw [hv'] at hu
  cases hu
  obtain ⟨d, ed, hd⟩ := hr.getV ex
  have eg : ds.getD i .non = d := by rw [List.getD_eq_getElem?_getD, ed] <;> rfl
  have hq' : Q (truD (ds.getD i .non)) s := hq
  rw [eg] at hq'
  obtain ⟨x, ex2, h1, h2⟩ := flatT_rep (List.all_eq_true.mp f d (List.mem_of_getElem? ed)) hd
  rw [ex2] at ru
  rcases h1 with rfl | ⟨b, rfl, e⟩ | ⟨k, rfl, e⟩
  · cases ru
    rw [h2 rfl] at hq'
    exact PyProof.Rows.truthy_none hq'
  · cases ru
    rw [e] at hq'
    exact wpAny_truthy_bool hq'
  · obtain ⟨t, rfl⟩ := ru
    rw [e] at hq'
    exact PySem.P.truthy_int hq'
theorem any_rangeD : ∀ ds : List D, (List.range ds.length).any (fun i => truD (ds.getD i .non)) = ds.any truD
  | [] => rfl
  | b :: bs => by
    rw [List.length_cons, List.range_succ_eq_map, List.any_cons, List.any_map, List.any_cons, ← any_rangeD bs]
    all_goals rfl
theorem all_rangeD : ∀ ds : List D, (List.range ds.length).all (fun i => truD (ds.getD i .non)) = ds.all truD
  | [] => rfl
  | b :: bs => by
    rw [List.length_cons, List.range_succ_eq_map, List.all_cons, List.all_map, List.all_cons, ← all_rangeD bs]
    all_goals rfl
theorem all_ok (hK : X.K = T.K) (hc : X.calm = true) : CallR X (.builtin "all") (rBi T "all") := by
  intro pins s σ H us uvs Q I ru ⟨G, C, ds, K, rel, hr, h, post⟩
  obtain ⟨ds, e, hf, h⟩ := h
  rcases e with e | e
  · obtain ⟨x, u, rfl, rfl, _, _, t⟩ := view1 rel hr e
    obtain ⟨a, vs, rfl, ha, hs⟩ := t
    obtain ⟨its, rv, hl, _⟩ := I.list (SqL.of ha)
    rw [Vals.ref1 ru]
    refine call_all_walk (iter_any hl.isList fun s₂ e2 st hne => ?_)
    subst e2
    refine ⟨_, _, _, _, _, _, _, rfl, Walks.list (A := X.A.in1) (I.ok.hd hc) _ a hne its.toArray, st, truth_flat hf hs rv, fun h' tk hk => ?_⟩
    refine ⟨.bl _, H, I.kept fun b o eo => hk b o (fun hmem => ?_) (Heap.get?_push_of_some _ eo), ?_, post.same rel h rfl⟩
    · rcases List.mem_cons.mp hmem with e1 | hmem
      · exact absurd (e1 ▸ Heap.lt_size eo) (Nat.lt_irrefl _)
      · cases hmem
    · show Value.bool _ = Value.bool _
      rw [← all_rangeD, List.size_toArray, ← rv.length, hs.len]
  · obtain ⟨x, u, rfl, rfl, _, _, t⟩ := view1 rel hr e
    obtain ⟨a, vs, rfl, ha, hs⟩ := t
    obtain ⟨its, rv, hl, _⟩ := I.tuple (hK ▸ ha)
    rw [Vals.ref1 ru]
    have hlt : a < s.heap.objs.size := by
      obtain ⟨o, e, _⟩ := hl
      exact Heap.lt_size e
    have hl2 : s.heap.IsTuple a its.toArray := hl
    refine call_all_walk (PySem.wpAny_pyIter_tuple hl2 ?_)
    refine ⟨_, _, _, _, _, _, _, rfl, Walks.tuple (A := X.A.in1) (I.ok.hd hc) _ a (Nat.ne_of_lt hlt) its.toArray, ⟨⟨_, Heap.get?_push_size _ rfl, rfl, rfl⟩, hl2.at fun o e => Heap.get?_push_of_some _ e⟩, truth_flat hf hs rv, fun h' tk hk => ?_⟩
    refine ⟨.bl _, H, I.kept fun b o eo => hk b o (fun hmem => ?_) (Heap.get?_push_of_some _ eo), ?_, post.same rel h rfl⟩
    · rcases List.mem_cons.mp hmem with e1 | hmem
      · exact absurd (e1 ▸ Heap.lt_size eo) (Nat.lt_irrefl _)
      · cases hmem
    · show Value.bool _ = Value.bool _
      rw [← all_rangeD, List.size_toArray, ← rv.length, hs.len]
theorem any_ok (hK : X.K = T.K) (hc : X.calm = true) : CallR X (.builtin "any") (rBi T "any") := by
  intro pins s σ H us uvs Q I ru ⟨G, C, ds, K, rel, hr, h, post⟩
  obtain ⟨ds, e, hf, h⟩ := h
  rcases e with e | e
  · obtain ⟨x, u, rfl, rfl, _, _, t⟩ := view1 rel hr e
    obtain ⟨a, vs, rfl, ha, hs⟩ := t
    obtain ⟨its, rv, hl, _⟩ := I.list (SqL.of ha)
    rw [Vals.ref1 ru]
    refine call_any_walk (iter_any hl.isList fun s₂ e2 st hne => ?_)
    subst e2
    refine ⟨_, _, _, _, _, _, _, rfl, Walks.list (A := X.A.in1) (I.ok.hd hc) _ a hne its.toArray, st, truth_flat hf hs rv, fun h' tk hk => ?_⟩
    refine ⟨.bl _, H, I.kept fun b o eo => hk b o (fun hmem => ?_) (Heap.get?_push_of_some _ eo), ?_, post.same rel h rfl⟩
    · rcases List.mem_cons.mp hmem with e1 | hmem
      · exact absurd (e1 ▸ Heap.lt_size eo) (Nat.lt_irrefl _)
      · cases hmem
    · show Value.bool _ = Value.bool _
      rw [← any_rangeD, List.size_toArray, ← rv.length, hs.len]
  · obtain ⟨x, u, rfl, rfl, _, _, t⟩ := view1 rel hr e
    obtain ⟨a, vs, rfl, ha, hs⟩ := t
    obtain ⟨its, rv, hl, _⟩ := I.tuple (hK ▸ ha)
    rw [Vals.ref1 ru]
    have hlt : a < s.heap.objs.size := by
      obtain ⟨o, e, _⟩ := hl
      exact Heap.lt_size e
    have hl2 : s.heap.IsTuple a its.toArray := hl
    refine call_any_walk (PySem.wpAny_pyIter_tuple hl2 ?_)
    refine ⟨_, _, _, _, _, _, _, rfl, Walks.tuple (A := X.A.in1) (I.ok.hd hc) _ a (Nat.ne_of_lt hlt) its.toArray, ⟨⟨_, Heap.get?_push_size _ rfl, rfl, rfl⟩, hl2.at fun o e => Heap.get?_push_of_some _ e⟩, truth_flat hf hs rv, fun h' tk hk => ?_⟩
    refine ⟨.bl _, H, I.kept fun b o eo => hk b o (fun hmem => ?_) (Heap.get?_push_of_some _ eo), ?_, post.same rel h rfl⟩
    · rcases List.mem_cons.mp hmem with e1 | hmem
      · exact absurd (e1 ▸ Heap.lt_size eo) (Nat.lt_irrefl _)
      · cases hmem
    · show Value.bool _ = Value.bool _
      rw [← any_rangeD, List.size_toArray, ← rv.length, hs.len]
theorem int_ok : CallR X (.type "int") (rBi T "int") := by
  intro pins s σ H us uvs Q I ru ⟨G, C, ds, K, rel, hr, h, post⟩
  obtain ⟨i, e, h⟩ := h
  obtain ⟨x, u, rfl, rfl, _, _, t⟩ := view1 rel hr e
  obtain rfl := t
  exact call_int1 pins s σ H _ uvs Q I ru (.inl ⟨i, rfl, post.same rel h rfl⟩)
theorem str_ok : CallR X (.type "str") (rBi T "str") := by
  intro pins s σ H us uvs Q I ru ⟨G, C, ds, K, rel, hr, h, post⟩
  obtain ⟨i, e, hz, h⟩ := h
  obtain ⟨x, u, rfl, rfl, _, _, t⟩ := view1 rel hr e
  obtain rfl := t
  exact call_str_int pins s σ H _ uvs Q I ru ⟨i, rfl, hz, post.same rel h rfl⟩
theorem repr_seq (hK : X.K = T.K) (hg : X.A.guards = some []) (hu : X.A.units + 65 < cLine) {pins : List (Addr × Obj)} {s : Shared} {σ : L2.St} {G H : Hp} {C : Cs} {d : D} {a : Addr} {Q : VK} {uvs : List Value} (I : Inv X pins σ H s) (ru : Vals [.ref a] uvs)
    (rel : Rel T G H C) (t : Top T G H d (.ref a)) (ok : ReprOk d) (post : Q (.str (reprT d)) H) : wpAny (model X.prog X.w) X.A (call (.builtin "repr") uvs) (EP X pins σ Q) X.xe s := by
  obtain ⟨uv, rfl, ruv⟩ : ∃ uv, uvs = [uv] ∧ RelV (.ref a) uv := by
    cases ru with
    | cons p q =>
      cases q
      exact ⟨_, rfl, p⟩
  obtain rfl : uv = Value.ref a := ruv
  obtain ⟨as, r⟩ := Dp.reads I (toPy d) (.ref a) (.ref a) (hK ▸ dp_top rel.sub ok.n t) rfl
  have hd := ok.dp
  refine repr_of_reads' r ok.s (fun z => by rw [ok.h] at z; cases z) hg (by omega) (fun b o e => e) (fun h' u tk hk => ?_) ok.l
  exact ⟨.str _, H, I.kept fun b o eo => hk b o eo, ⟨_, rfl⟩, post⟩
theorem repr_ok (hK : X.K = T.K) (hg : X.A.guards = some []) (hu : X.A.units + 65 < cLine) : CallR X (.builtin "repr") (rBi T "repr") := by
  intro pins s σ H us uvs Q I ru ⟨G, C, ds, K, rel, hr, h, post⟩
  obtain ⟨d, e, h⟩ := h
  obtain ⟨x, u, rfl, rfl, ev, hx, t⟩ := view1 rel hr e
  cases d with
  | int i =>
    obtain rfl := t
    exact SkE.call_repr_int pins s σ H _ uvs Q I ru ⟨i, rfl, h.1, post.same rel h.2 rfl⟩
  | lst ds =>
    have t' := t
    obtain ⟨a, vs, rfl, ha, hs⟩ := t'
    exact repr_seq hK hg hu I ru rel t h.1 (post.same rel h.2 rfl)
  | tup ds =>
    have t' := t
    obtain ⟨a, vs, rfl, ha, hs⟩ := t'
    exact repr_seq hK hg hu I ru rel t h.1 (post.same rel h.2 rfl)
  | _ => exact False.elim h
theorem tuple_ok (hK : X.K = T.K) : CallR X (.type "tuple") (rBi T "tuple") := by
  intro pins s σ H us uvs Q I ru ⟨G, C, ds, K, rel, hr, h, post⟩
  rcases h with ⟨ds, e, h⟩ | ⟨ds, e, h⟩
  · obtain ⟨x, u, rfl, rfl, _, _, t⟩ := view1 rel hr e
    obtain ⟨a, vs, rfl, ha, hs⟩ := t
    exact call_tuple_of pins s σ H _ uvs Q I ru ⟨a, vs, rfl, .inl ⟨SqL.of ha, fun p hp => post.lay rel h hp (rep_tup hs (rel.fresh hp).1)⟩⟩
  · obtain ⟨x, u, rfl, rfl, ev, hx, t⟩ := view1 rel hr e
    obtain rfl := view_tup ev
    obtain ⟨a, vs, rfl, ha, hs⟩ := t
    exact call_tuple_of pins s σ H _ uvs Q I ru ⟨a, vs, rfl, .inr ⟨hK ▸ ha, post.same rel h hx⟩⟩
theorem list_ok (hK : X.K = T.K) : CallR X (.type "list") (rBi T "list") := by
  intro pins s σ H us uvs Q I ru ⟨G, C, ds, K, rel, hr, h, post⟩
  rcases h with ⟨ds, e, h⟩ | ⟨ds, e, h⟩
  · obtain ⟨x, u, rfl, rfl, _, _, t⟩ := view1 rel hr e
    obtain ⟨a, vs, rfl, ha, hs⟩ := t
    exact call_list_of pins s σ H _ uvs Q I ru ⟨a, vs, rfl, .inl (SqL.of ha), fun p hp => post.lay rel h hp (rep_lst hs (rel.fresh hp).1)⟩
  · obtain ⟨x, u, rfl, rfl, ev, hx, t⟩ := view1 rel hr e
    obtain ⟨a, vs, rfl, ha, hs⟩ := t
    exact call_list_of pins s σ H _ uvs Q I ru ⟨a, vs, rfl, .inr (hK ▸ ha), fun p hp => post.lay rel h hp (rep_lst hs (rel.fresh hp).1)⟩
theorem divmod_ok : CallR X (.builtin "divmod") (rBi T "divmod") := by
  intro pins s σ H us uvs Q I ru ⟨G, C, ds, K, rel, hr, h, post⟩
  obtain ⟨i, j, e, hd, h⟩ := h
  obtain ⟨u, v, rfl, t1, t2⟩ := view2 rel hr e
  obtain rfl := t1; obtain rfl := t2
  exact call_divmod pins s σ H _ uvs Q I ru ⟨i, j, rfl, hd, fun p hp => post.lay rel h hp (rep_tup (ds := [.int (i / j), .int (i % j)]) ⟨_, _, rfl, rfl, _, _, rfl, rfl, rfl⟩ (rel.fresh hp).1)⟩
theorem sorted_ok : CallR X (.builtin "sorted") (rBi T "sorted") := by
  intro pins s σ H us uvs Q I ru ⟨G, C, ds, K, rel, hr, h, post⟩
  obtain ⟨ns, e, h⟩ := h
  obtain ⟨x, u, rfl, rfl, _, _, t⟩ := view1 rel hr e
  obtain ⟨a, rfl, ha⟩ := top_ints t
  exact cr_sortedI pins s σ H _ uvs Q I ru ⟨a, ns, rfl, SqL.of ha, fun ms p h1 h2 hp => post.lay rel (h ms h1 h2) hp (rep_lst (Reps.ofInts ms) (rel.fresh hp).1)⟩
/-- isinstance(x, T) of a built-in type -/
theorem ty_of (hK : X.K = T.K) {G H : Hp} {C : Cs} (rel : Rel T G H C) {x : D} {u : V} {t : String} {K : D → Prop} (hx : Rep T G x u) (h : isTyD (view C x) t K) : ∃ s b, TyX X.K H u (.type s) ∧ kitB s t = some b ∧ K (.bl b) := by
  have tx := top_view rel hx
  generalize view C x = x' at h tx
  cases x' with
  | non => obtain rfl := tx; obtain ⟨b, e, k⟩ := h; exact ⟨_, b, .base .non, e, k⟩
  | bl y => obtain rfl := tx; obtain ⟨b, e, k⟩ := h; exact ⟨_, b, .base (.bl y), e, k⟩
  | int y => obtain rfl := tx; obtain ⟨b, e, k⟩ := h; exact ⟨_, b, .base (.int y), e, k⟩
  | str y => obtain rfl := tx; obtain ⟨b, e, k⟩ := h; exact ⟨_, b, .base (.str y), e, k⟩
  | lst y => obtain ⟨a, vs, rfl, ha, _⟩ := tx; obtain ⟨b, e, k⟩ := h; exact ⟨_, b, .base (.lst ha), e, k⟩
  | tup y =>
    obtain ⟨a, vs, rfl, ha, _⟩ := tx
    obtain ⟨b, e, k⟩ := h
    rcases ha with (ha | ⟨o, ha⟩) | ⟨o, its, n, h1, h2, _⟩
    · exact ⟨_, b, .base (.tup ha), e, k⟩
    · exact ⟨_, b, .fTuple ha, e, k⟩
    · exact ⟨_, b, .kTuple (hK ▸ h1) h2, e, k⟩
  | dct y z => obtain ⟨a, vs, rfl, ha, _⟩ := tx; obtain ⟨b, e, k⟩ := h; exact ⟨_, b, .base (.dK ha), e, k⟩
  | _ => exact (show False from h).elim
end

/-! ### methods of built-in types that change nothing -/
def rBm (T : Tb) (t m : String) : V → List V → Hp → VK → Prop := fun u us H Q => ∃ (G : Hp) (C : Cs) (x : D) (ds : List D) (K : D → Prop), Rel T G H C ∧ Rep T G x u ∧ Reps T G ds us ∧ bmD t m (view C x) (ds.map (view C)) K ∧ Post T G H C K Q
section
variable {X : Cx} {T : Tb}
theorem split_ok : MtR X "str.split" (rBm T "str" "split") := by
  intro pins s σ H u us uv uvs Q I ru rus ⟨G, C, x, ds, K, rel, hx, hr, h, post⟩
  obtain ⟨a, b, e1, e2, hz, h⟩ := h
  obtain ⟨y, w, rfl, rfl, _, _, t⟩ := view1 rel hr e2
  have tx := top_view rel hx
  rw [e1] at tx
  obtain rfl := tx; obtain rfl := t
  exact mt_split pins s σ H _ _ uv uvs Q I ru rus ⟨a, b, rfl, rfl, hz.1, hz.2, fun p hp => post.lay rel h hp (rep_lst (Reps.ofStrs _) (rel.fresh hp).1)⟩
theorem index_ok (hK : X.K = T.K) : MtR X "list.index" (rBm T "list" "index") := by
  intro pins s σ H u us uv uvs Q I ru rus ⟨G, C, x, ds, K, rel, hx, hr, h, post⟩
  obtain ⟨ds, y, z, j, e1, e2, ⟨f1, f2⟩, h1, h2, h3, h⟩ := h
  obtain ⟨y', w, rfl, rfl, _, _, t⟩ := view1 rel hr e2
  have tx := top_view rel hx
  rw [e1] at tx
  obtain ⟨a, vs, rfl, ha, hs⟩ := tx
  have hy : Rep T G y w := by
    cases y with
    | non => exact t
    | bl _ => exact t
    | int _ => exact t
    | str _ => exact t
    | _ => cases f1
  obtain ⟨v, ev, hv⟩ := hs.get h1
  have fz := List.all_eq_true.mp f2 z (List.mem_of_getElem? h1)
  refine mt_index pins s σ H _ _ uv uvs Q I ru rus ⟨a, vs, w, j, v, rfl, rfl, SqL.of ha, (flat_rep f1 hy).1, flat_all f2 hs, ev, by rw [(flat_rep fz hv).2 f1 hy]; exact h2, fun m z' hm ez => ?_, post.same rel h rfl⟩
  obtain ⟨d, ed, hd⟩ := hs.getV ez
  rw [(flat_rep (List.all_eq_true.mp f2 d (List.mem_of_getElem? ed)) hd).2 f1 hy]
  exact h3 m d hm ed
theorem join_ok : MtR X "str.join" (rBm T "str" "join") := by
  intro pins s σ H u us uv uvs Q I ru rus ⟨G, C, x, ds, K, rel, hx, hr, h, post⟩
  obtain ⟨a, ys, e1, e2, hz, h⟩ := h
  obtain ⟨y, w, rfl, rfl, _, _, t⟩ := view1 rel hr e2
  have tx := top_view rel hx
  rw [e1] at tx
  obtain rfl := tx
  obtain ⟨p, rfl, hp⟩ := top_strs t
  exact mt_join pins s σ H _ _ uv uvs Q I ru rus ⟨a, p, ys, rfl, rfl, .inl (SqL.of hp), hz, post.same rel h rfl⟩
end

/-! ### stores -/
section
variable {X : Cx} {T : Tb}
theorem setI_ok (hu : X.A.units + 65 < cLine) : PSet X (fun o i v H Q => ∃ (G : Hp) (C : Cs) (x y z : D) (K : Cs → Prop), Rel T G H C ∧ Rep T G x o ∧ Rep T G y i ∧ Rep T G z v ∧ setID x y z C K ∧ ∀ G' H' C', K C' → Rel T G' H' C' → Fr G H C G' H' C' → Q H') := by
  intro pins s σ H o i v ov iv u Q I ro ri rv ⟨G, C, x, y, z, K, rel, hx, hy, hz, h, post⟩
  cases x with
  | ref a =>
    obtain rfl : o = .ref a := hx
    unfold setID at h
    dsimp only at h
    cases q : C a with
    | none => rw [q] at h; exact h.elim
    | some co =>
      rw [q] at h
      obtain ⟨_, ho, e, hr⟩ := rel.cel _ _ q
      cases co with
      | lst ds =>
        obtain ⟨vs, rfl, hr⟩ := hr
        cases y with
        | int k =>
          obtain rfl : i = .int k := hy
          obtain ⟨j, ej, k2⟩ := h
          refine set_list pins s σ H _ _ _ ov iv u Q I ro ri rv ⟨a, vs, k, j, rfl, rfl, e, by rw [hr.len]; exact ej, ?_⟩
          obtain ⟨r2, f2⟩ := rel.put (co := .lst (ds.set j z)) (o := .lst (vs.set j v)) q ⟨_, rfl, hr.set j hz⟩
          exact post _ _ _ k2 r2 f2
        | _ => exact (show False from h).elim
      | dct ks ds =>
        obtain ⟨kvs, rfl, ek, hr⟩ := hr
        have hy' : Top T G H y i := Rep.top rel.sub hy
        obtain ⟨k, rfl, hl, k2⟩ := keyD_of (show keyD y fun k => ks.length < sizeLine ∧ K (cset C a (.dct (dputK ks k) (dputD ks ds k z))) from h) hy'
        subst ek
        rw [List.length_map] at hl
        refine set_dict (by omega) pins s σ H _ _ _ ov iv u Q I ro ri rv ⟨a, _, rfl, DPut.k e hl, ?_⟩
        have nd : (kvs.map (·.1)).Nodup := by
          obtain ⟨_, _, vs, rk, dd⟩ := dk_of I.hok e
          rw [KV.keys rk]
          obtain ⟨_, _, _, _, _, _, _, _, nd⟩ := dd
          exact nd
        obtain ⟨r2, f2⟩ := rel.put (co := .dct (dputK (kvs.map (·.1)) k) (dputD (kvs.map (·.1)) ds k z)) (o := .dK (putK kvs k v)) q ⟨_, rfl, put_keys k v kvs, put_vals hz nd hr⟩
        exact post _ _ _ k2 r2 f2
      | ins c ds => exact (show False from h).elim
  | _ => exact (show False from h).elim
end
end Mp

set_option Elab.async false
set_option linter.all false
set_option maxRecDepth 100000
set_option maxHeartbeats 4000000
/-! Mp, part E: the wishes on data as readings of the library (liftings), expressions. -/
namespace Mp
open PySem PySem.Spec L2

/-- an exception as data: its class's number, its own data -/
def XRep (T : Tb) (_G _H : Hp) (e : Exc) (cls : Value) (_d : Option Addr) : Prop := cls = .ref (T.cl e.c)
/-- a region: from G0 H0 C0; what is wanted of an exception -/
structure Rg where
  W : L2.WX
  xd : XD
  G0 : Hp
  H0 : Hp
  C0 : Cs
structure Stt (T : Tb) (R : Rg) (G H : Hp) (σ : L2.St) (ρ : Ro) (C : Cs) : Prop where
  rel : Rel T G H C
  sr : SR T G σ ρ
  len : ρ.length = σ.length
  fr : Fr R.G0 R.H0 R.C0 G H C
def RgOk (T : Tb) (R : Rg) : Prop := ∀ G H σ ρ C e cls d, Stt T R G H σ ρ C → R.xd e ρ C → XRep T G H e cls d → R.W cls d σ H
section
variable {T : Tb} {R : Rg} {G H G' H' : Hp} {σ : L2.St} {ρ : Ro} {C C' : Cs}
theorem Stt.step (s : Stt T R G H σ ρ C) (r : Rel T G' H' C') (f : Fr G H C G' H' C') : Stt T R G' H' σ ρ C' := ⟨r, s.sr.up f.up, s.len, s.fr.trans f⟩
theorem Stt.set (s : Stt T R G H σ ρ C) (i : Nat) {d : D} {v : V} (h : Rep T G d v) : Stt T R G H (σ.set i (some v)) (ρ.set i (some d)) C :=
  ⟨s.rel, s.sr.set i s.len h, by rw [List.length_set, List.length_set]; exact s.len, s.fr⟩
end
/-- the liftings -/
def LE (T : Tb) (R : Rg) (v : Ro → Cs → KE → XD → Prop) : TE := fun σ H Q => ∃ G ρ C P, Stt T R G H σ ρ C ∧ v ρ C P R.xd ∧
  ∀ d ρ' C' u G' H', P d ρ' C' → Stt T R G' H' σ ρ' C' → Fr G H C G' H' C' → Rep T G' d u → Q u H'
def LT (T : Tb) (R : Rg) (v : Ro → Cs → KT → XD → Prop) : TT := fun σ H Q => ∃ G ρ C P, Stt T R G H σ ρ C ∧ v ρ C P R.xd ∧
  ∀ b ρ' C' G' H', P b ρ' C' → Stt T R G' H' σ ρ' C' → Fr G H C G' H' C' → Q b H'
def LL (T : Tb) (R : Rg) (v : WL) : TA := fun σ H Q => ∃ G ρ C P, Stt T R G H σ ρ C ∧ v ρ C P R.xd ∧
  ∀ ds ρ' C' us G' H', P ds ρ' C' → Stt T R G' H' σ ρ' C' → Fr G H C G' H' C' → Reps T G' ds us → Q us H'
def LO (T : Tb) (R : Rg) (v : Ro → Cs → (Option Int → Ro → Cs → Prop) → XD → Prop) : TO := fun σ H Q => ∃ G ρ C P, Stt T R G H σ ρ C ∧ v ρ C P R.xd ∧
  ∀ o ρ' C' G' H', P o ρ' C' → Stt T R G' H' σ ρ' C' → Fr G H C G' H' C' → Q o H'
theorem PEi {X : Cx} {e : Expr} {t t' : TE} (h : PE X e t) (i : ∀ σ H Q, t' σ H Q → t σ H Q) : PE X e t' := ⟨fun pins s σ H Q I q => h.run pins s σ H Q I (i σ H Q q)⟩
theorem PTi {X : Cx} {e : Expr} {t t' : TT} (h : PT X e t) (i : ∀ σ H Q, t' σ H Q → t σ H Q) : PT X e t' := ⟨fun pins s σ H Q I q => h.run pins s σ H Q I (i σ H Q q)⟩
theorem PWi {X : Cx} {e : Expr} {t t' : TT} (h : PW X e t) (i : ∀ σ H Q, t' σ H Q → t σ H Q) : PW X e t' := ⟨fun wh pins s σ H Q I q => h.run wh pins s σ H Q I (i σ H Q q)⟩
theorem PAi {X : Cx} {e : List Expr} {t t' : TA} (h : PA X e t) (i : ∀ σ H Q, t' σ H Q → t σ H Q) : PA X e t' := ⟨fun pos pins s σ H Q I q => h.run pos pins s σ H Q I (i σ H Q q)⟩
theorem POi {X : Cx} {e : Option Expr} {t t' : TO} (h : PO X e t) (i : ∀ σ H Q, t' σ H Q → t σ H Q) : PO X e t' := ⟨fun pins s σ H Q I q => h.run pins s σ H Q I (i σ H Q q)⟩
theorem PSi {X : Cx} {e : Stmt} {t t' : TS} (h : PS X e t) (i : ∀ D σ H, t' D σ H → t D σ H) : PS X e t' := ⟨fun pins s σ H D I q => h.run pins s σ H D I (i D σ H q)⟩
theorem PSsi {X : Cx} {e : List Stmt} {t t' : TS} (h : PSs X e t) (i : ∀ D σ H, t' D σ H → t D σ H) : PSs X e t' := ⟨fun pins s σ H D I q => h.run pins s σ H D I (i D σ H q)⟩

/-! ### a def's promise, lifted -/
def spL (T : Tb) (f : Spec) (n : Nat) : Sp := fun vs H Q E => ∃ G C ds P PX, Rel T G H C ∧ Reps T G ds vs ∧ ds.length = n ∧ f ds C P PX ∧
  (∀ d C' u G' H', P d C' → Rel T G' H' C' → Fr G H C G' H' C' → Rep T G' d u → Q u H') ∧
  (∀ e C' cls d G' H', PX e C' → Rel T G' H' C' → Fr G H C G' H' C' → XRep T G' H' e cls d → E cls d H')
theorem spL_len {T : Tb} {f : Spec} {n : Nat} {vs : List V} {H : Hp} {Q : VK} {E : XK} (h : spL T f n vs H Q E) : vs.length = n := by
  obtain ⟨G, C, ds, P, PX, _, hr, hl, _⟩ := h
  rw [hr.len, hl]

section
variable {X : Cx} {T : Tb} {R : Rg} {a b c e o : Expr} {es zs : List Expr} {pos pos' : Pos} {va vb vc : Ro → Cs → KE → XD → Prop}
/-! ### names, constants -/
theorem frzL_ok {T : Tb} {H : Hp} : ∀ (ds : List D) (C : Cs) (G : Hp) (vs : List V), Rel T G H C → Reps T G ds vs → ∃ G', Rel T G' H (frzL ds C).2 ∧ Fr G H C G' H (frzL ds C).2 ∧ Reps T G' (frzL ds C).1 vs
  | [], C, G, vs, rel, h => ⟨G, rel, Fr.refl, h⟩
  | d :: ds, C, G, vs, rel, h => by
    obtain ⟨v, r, rfl, h2, h3⟩ := h
    have other : (frzL (d :: ds) C = (d :: (frzL ds C).1, (frzL ds C).2)) → ∃ G', Rel T G' H (frzL (d :: ds) C).2 ∧ Fr G H C G' H (frzL (d :: ds) C).2 ∧ Reps T G' (frzL (d :: ds) C).1 (v :: r) := fun e => by
      obtain ⟨G', k1, k2, k3⟩ := frzL_ok ds C G r rel h3
      rw [e]
      exact ⟨G', k1, k2, v, r, rfl, h2.up k2.up, k3⟩
    cases d with
    | ref a =>
      cases e : C a with
      | none => exact other (by simp only [frzL, e])
      | some co =>
        cases co with
        | lst es =>
          obtain ⟨_, ho, eh, hr⟩ := rel.cel _ _ e
          obtain ⟨ws, rfl, hw⟩ := hr
          obtain ⟨r2, f2⟩ := rel.frz e eh
          obtain ⟨G', k1, k2, k3⟩ := frzL_ok ds (cdel C a) _ r r2 (Reps.up f2.up _ _ h3)
          have e3 : frzL (.ref a :: ds) C = (.lst es :: (frzL ds (cdel C a)).1, (frzL ds (cdel C a)).2) := by simp only [frzL, e]
          rw [e3]
          exact ⟨G', k1, f2.trans k2, v, r, rfl, ⟨a, ws, h2, k2.up _ _ upd_same, Reps.up (f2.up.trans k2.up) _ _ hw⟩, k3⟩
        | dct ks es => exact other (by simp only [frzL, e])
        | ins c es => exact other (by simp only [frzL, e])
    | _ => exact other rfl
theorem le_var {i : Nat} {frz : Bool} (h : PE X e (tVar i)) : PE X e (LE T R (plainX fun ρ C K _ => varW i frz ρ C K).val) := by
  refine PEi h fun σ H Q ⟨G, ρ, C, P, st, v, q⟩ => ?_
  have v' : varW i frz ρ C P := v
  unfold varW at v'
  cases e1 : ρ[i]? with
  | none => rw [e1] at v'; exact v'.elim
  | some o =>
    cases o with
    | none => rw [e1] at v'; exact v'.elim
    | some d =>
      rw [e1] at v'
      obtain ⟨u, hu, hr⟩ := st.sr i d e1
      refine ⟨u, hu, ?_⟩
      cases frz with
      | false => exact q d ρ C u G H v' st Fr.refl hr
      | true =>
        have v2 : frzV i d ρ C P := v'
        cases d with
        | lst ds =>
          obtain ⟨a, vs, rfl, h1, h2⟩ := hr
          obtain ⟨G', k1, k2, k3⟩ := frzL_ok ds C G vs st.rel h2
          have k4 : Rep T G' (.lst (frzL ds C).1) (.ref a) := ⟨a, vs, rfl, k2.up _ _ h1, k3⟩
          exact q _ _ _ _ _ _ v2 ⟨k1, (st.sr.up k2.up).re i hu k4, by rw [List.length_set]; exact st.len, st.fr.trans k2⟩ k2 k4
        | ref a =>
          unfold frzV at v2
          dsimp only at v2
          obtain rfl : u = .ref a := hr
          cases e2 : C a with
          | none => rw [e2] at v2; exact q _ ρ C _ G H v2 st Fr.refl rfl
          | some co =>
            rw [e2] at v2
            obtain ⟨_, ho, eh, hr⟩ := st.rel.cel _ _ e2
            obtain ⟨r2, f2⟩ := st.rel.frz e2 eh
            have fin : ∀ d', Rep T (upd G a ho) d' (.ref a) → P d' (ρ.set i (some d')) (cdel C a) → Q (.ref a) H := fun d' h1 h2 =>
              q d' _ _ _ _ H h2 ⟨r2, (st.sr.up f2.up).re i hu h1, by rw [List.length_set]; exact st.len, st.fr.trans f2⟩ f2 h1
            cases co with
            | lst ds =>
              obtain ⟨vs, rfl, h1⟩ := hr
              exact fin (.lst ds) ⟨a, vs, rfl, upd_same, Reps.up f2.up _ _ h1⟩ v2
            | dct ks ds =>
              obtain ⟨kvs, rfl, h0, h1⟩ := hr
              exact fin (.dct ks ds) ⟨a, kvs, rfl, upd_same, h0, Reps.up f2.up _ _ h1⟩ v2
            | ins c ds =>
              obtain ⟨dx, fs, rfl, h0, h1⟩ := hr
              exact fin (.ins c ds) ⟨a, dx, fs, rfl, upd_same, h0, Reps.up f2.up _ _ h1⟩ v2
        | _ => exact q _ ρ C u G H v2 st Fr.refl hr
theorem le_val {d : D} {v : V} (h : PE X e (tC v)) (hr : ∀ G, Rep T G d v) : PE X e (LE T R fun ρ C K _ => K d ρ C) :=
  PEi h fun σ H Q ⟨G, ρ, C, P, st, v, q⟩ => q d ρ C _ G H v st Fr.refl (hr G)

/-! ### operators -/
theorem le_two {f : D → D → (D → Prop) → Prop} (h : PE X e (tOp (R2D T f) (LE T R va) (LE T R vb))) :
    PE X e (LE T R fun ρ C K xd => va ρ C (fun x ρ1 C1 => vb ρ1 C1 (fun y ρ2 C2 => f (view C2 x) (view C2 y) fun z => K z ρ2 C2) xd) xd) :=
  PEi h fun σ H Q ⟨G, ρ, C, P, st, v, q⟩ => ⟨G, ρ, C, _, st, v, fun x ρ1 C1 u G1 H1 h1 s1 f1 r1 => ⟨G1, ρ1, C1, _, s1, h1, fun y ρ2 C2 w G2 H2 h2 s2 f2 r2 =>
    ⟨G2, C2, x, y, _, s2.rel, r1.up f2.up, r2, h2, fun z w G' H' k rel fr rep => q z ρ2 C2 w G' H' k (s2.step rel fr) ((f1.trans f2).trans fr) rep⟩⟩⟩
/-- an operation on one value, by data -/
def R1D (T : Tb) (f : D → (D → Prop) → Prop) : V → Hp → VK → Prop := fun u H Q => ∃ (G : Hp) (C : Cs) (x : D) (K : D → Prop), Rel T G H C ∧ Rep T G x u ∧ f (view C x) K ∧ Post T G H C K Q
theorem le_one {f : D → (D → Prop) → Prop} (h : PE X e (fun σ H Q => LE T R va σ H fun x H1 => R1D T f x H1 Q)) :
    PE X e (LE T R fun ρ C K xd => va ρ C (fun x ρ1 C1 => f (view C1 x) fun z => K z ρ1 C1) xd) :=
  PEi h fun σ H Q ⟨G, ρ, C, P, st, v, q⟩ => ⟨G, ρ, C, _, st, v, fun x ρ1 C1 u G1 H1 h1 s1 f1 r1 =>
    ⟨G1, C1, x, _, s1.rel, r1, h1, fun z w G' H' k rel fr rep => q z ρ1 C1 w G' H' k (s1.step rel fr) (f1.trans fr) rep⟩⟩
theorem le_neg (ha : PE X a (LE T R va)) : PE X (.UnaryOp .USub a pos) (LE T R (plainX fun ρ C K xd => va ρ C (fun x ρ1 C1 => negD x fun z => K z ρ1 C1) xd).val) := by
  refine PEi (pe_un un_neg ha) fun σ H Q ⟨G, ρ, C, P, st, v, q⟩ => ⟨G, ρ, C, _, st, v, fun x ρ1 C1 u G1 H1 h1 s1 f1 r1 => ?_⟩
  cases x with
  | int i =>
    obtain rfl : u = .int i := r1
    exact ⟨i, rfl, q _ ρ1 C1 _ G1 H1 h1 s1 f1 rfl⟩
  | _ => exact (show False from h1).elim
theorem le_bin (hK : X.K = T.K) {op : Operator} (ha : PE X a (LE T R va)) (hb : PE X b (LE T R vb)) :
    PE X (.BinOp a op b pos) (LE T R (plainX fun ρ C K xd => va ρ C (fun x ρ1 C1 => vb ρ1 C1 (fun y ρ2 C2 => binD op (view C2 x) (view C2 y) fun z => K z ρ2 C2) xd) xd).val) :=
  le_two (pe_op (bin_ok hK op) ha hb)
theorem le_idx (hK : X.K = T.K) (hu : X.A.units + 65 < cLine) (ha : PE X a (LE T R va)) (hb : PE X b (LE T R vb)) (hs : PlainIx b) :
    PE X (.Subscript a b pos) (LE T R (plainX fun ρ C K xd => va ρ C (fun x ρ1 C1 => vb ρ1 C1 (fun y ρ2 C2 => idxD (view C2 x) (view C2 y) fun z => K z ρ2 C2) xd) xd).val) :=
  le_two (pe_ix (idx_ok hK hu) ha hb hs)
/-- a comparison -/
abbrev wCmp (op : CmpOp) (va vb : Ro → Cs → KE → XD → Prop) : Ro → Cs → KE → XD → Prop := fun ρ C K xd => va ρ C (fun x ρ1 C1 => vb ρ1 C1 (fun y ρ2 C2 => cmpD op (view C2 x) (view C2 y) fun z => K z ρ2 C2) xd) xd
theorem le_cmp (hK : X.K = T.K) (hu : X.A.units + 65 < cLine) {op : CmpOp} (ha : PE X a (LE T R va)) (hb : PE X b (LE T R vb)) (hm : behindInMarks op b = false) : PE X (.Compare a [op] [b] pos) (LE T R (boolX (wCmp op va vb)).val) :=
  le_two (pe_cmpR (cmp_ok hK hu op) ha hb hm)
/-- a test whose value is a truth value -/
theorem lt_bool {v : Ro → Cs → KE → XD → Prop} (h : PT X e (tTest (LE T R v))) : PT X e (LT T R (boolX v).tst) := by
  refine PTi h fun σ H Q ⟨G, ρ, C, P, st, v, q⟩ => ⟨G, ρ, C, _, st, v, fun d ρ1 C1 u G1 H1 h1 s1 f1 r1 => ?_⟩
  cases d with
  | bl k =>
    obtain rfl : u = .bl k := r1
    exact ⟨k, rfl, q k ρ1 C1 G1 H1 h1 s1 f1⟩
  | _ => exact (show False from h1).elim
theorem lt_cmp (hK : X.K = T.K) (hu : X.A.units + 65 < cLine) {op : CmpOp} (ha : PE X a (LE T R va)) (hb : PE X b (LE T R vb)) (hm : behindInMarks op b = false) : PT X (.Compare a [op] [b] pos) (LT T R (boolX (wCmp op va vb)).tst) := by
  refine lt_bool (PTi (pt_cmpR (cmp_ok hK hu op) ha hb hm) fun σ H Q h => ?_)
  obtain ⟨G, ρ, C, P, st, v, q⟩ := h
  exact ⟨G, ρ, C, _, st, v, fun x ρ1 C1 u G1 H1 h1 s1 f1 r1 => ⟨G1, ρ1, C1, _, s1, h1, fun y ρ2 C2 w G2 H2 h2 s2 f2 r2 =>
    ⟨G2, C2, x, y, _, s2.rel, r1.up f2.up, r2, h2, fun z w G' H' k rel fr rep => q z ρ2 C2 w G' H' k (s2.step rel fr) ((f1.trans f2).trans fr) rep⟩⟩⟩
abbrev wChain (op op2 : CmpOp) (va vb vc : Ro → Cs → KE → XD → Prop) : Ro → Cs → KE → XD → Prop := fun ρ C K xd => va ρ C (fun x ρ1 C1 => vb ρ1 C1 (fun y ρ2 C2 => cmpD op (view C2 x) (view C2 y) fun z => match z with
      | .bl t => wIf t (vc ρ2 C2 (fun u ρ3 C3 => cmpD op2 (view C3 y) (view C3 u) fun z2 => K z2 ρ3 C3) xd) (K (.bl false) ρ2 C2)
      | _ => False) xd) xd
theorem chain_imp {op op2 : CmpOp} {σ : L2.St} {H : Hp} {Q : VK} (h : LE T R (wChain op op2 va vb vc) σ H Q) : tChain (R2D T (cmpD op)) (R2D T (cmpD op2)) (LE T R va) (LE T R vb) (LE T R vc) σ H Q := by
  obtain ⟨G, ρ, C, P, st, v, q⟩ := h
  refine ⟨G, ρ, C, _, st, v, fun x ρ1 C1 u G1 H1 h1 s1 f1 r1 => ⟨G1, ρ1, C1, _, s1, h1, fun y ρ2 C2 w G2 H2 h2 s2 f2 r2 =>
    ⟨G2, C2, x, y, _, s2.rel, r1.up f2.up, r2, h2, fun z w' G' H' k rel fr rep => ?_⟩⟩⟩
  cases z with
  | bl t =>
    obtain rfl : w' = .bl t := rep
    refine ⟨t, rfl, ?_⟩
    have s3 := s2.step rel fr
    cases t with
    | true =>
      rw [if_pos rfl]
      exact ⟨G', ρ2, C2, _, s3, k, fun u' ρ3 C3 w3 G3 H3 h3 s4 f3 r3 => ⟨G3, C3, y, u', _, s4.rel, (r2.up fr.up).up f3.up, r3, h3, fun z2 w2 G4 H4 k2 rel2 fr2 rep2 =>
        q z2 ρ3 C3 w2 G4 H4 k2 (s4.step rel2 fr2) ((((f1.trans f2).trans fr).trans f3).trans fr2) rep2⟩⟩
    | false =>
      rw [if_neg (by decide)]
      exact q _ ρ2 C2 _ G' H' k s3 ((f1.trans f2).trans fr) rfl
  | _ => exact (show False from k).elim
theorem le_chain (hK : X.K = T.K) (hu : X.A.units + 65 < cLine) {op op2 : CmpOp} (ha : PE X a (LE T R va)) (hb : PE X b (LE T R vb)) (hc : PE X c (LE T R vc)) (hm : lastMarks [op, op2] [b, c] = false) :
    PE X (.Compare a [op, op2] [b, c] pos) (LE T R (boolX (wChain op op2 va vb vc)).val) := PEi (pe_chain (cmp_ok hK hu op) (cmp_ok hK hu op2) ha hb hc hm) fun _ _ _ h => chain_imp h
theorem lt_chain (hK : X.K = T.K) (hu : X.A.units + 65 < cLine) {op op2 : CmpOp} (ha : PE X a (LE T R va)) (hb : PE X b (LE T R vb)) (hc : PE X c (LE T R vc)) (hm : lastMarks [op, op2] [b, c] = false) :
    PT X (.Compare a [op, op2] [b, c] pos) (LT T R (boolX (wChain op op2 va vb vc)).tst) := lt_bool (PTi (pt_chain (cmp_ok hK hu op) (cmp_ok hK hu op2) ha hb hc hm) fun _ _ _ h => chain_imp h)
/-! ### truth -/
theorem lt_plain (hK : X.K = T.K) (ha : PE X a (LE T R va)) (he : ∀ whole, isTrue a X.env whole = (do let v ← whole; standAt a.pos; holding [v] (truthy v))) : PT X a (LT T R (plainX va).tst) := by
  refine PTi (pt_truth ha he) fun σ H Q ⟨G, ρ, C, P, st, v, q⟩ => ⟨G, ρ, C, _, st, v, fun d ρ1 C1 u G1 H1 h1 s1 f1 r1 => ?_⟩
  obtain ⟨k, ht, hk⟩ := tru_of hK s1.rel r1 h1
  exact ⟨k, ht, q k ρ1 C1 G1 H1 hk s1 f1⟩
theorem le_not (hK : X.K = T.K) {w : WX} (ha : PE X a (LE T R w.val)) : PE X (.UnaryOp .Not a pos) (LE T R fun ρ C K xd => w.val ρ C (fun x ρ1 C1 => wTru (view C1 x) fun b => K (.bl (!b)) ρ1 C1) xd) := by
  refine PEi (pe_notT ha) fun σ H Q ⟨G, ρ, C, P, st, v, q⟩ => ⟨G, ρ, C, _, st, v, fun d ρ1 C1 u G1 H1 h1 s1 f1 r1 => ?_⟩
  obtain ⟨k, ht, hk⟩ := tru_of hK s1.rel r1 h1
  exact ⟨k, ht, q _ ρ1 C1 _ G1 H1 hk s1 f1 rfl⟩
theorem lt_not {w : WX} (ha : PT X a (LT T R w.tst)) : PT X (.UnaryOp .Not a pos) (LT T R fun ρ C K xd => w.tst ρ C (fun b => K (!b)) xd) :=
  PTi (pt_not ha) fun σ H Q ⟨G, ρ, C, P, st, v, q⟩ => ⟨G, ρ, C, _, st, v, fun b ρ1 C1 G1 H1 h1 s1 f1 => q _ ρ1 C1 G1 H1 h1 s1 f1⟩
theorem le_ite {w : WX} (hc : PT X c (LT T R w.tst)) (ha : PE X a (LE T R va)) (hb : PE X b (LE T R vb)) :
    PE X (.IfExp c a b pos) (LE T R fun ρ C K xd => w.tst ρ C (fun c ρ1 C1 => wIf c (va ρ1 C1 K xd) (vb ρ1 C1 K xd)) xd) := by
  refine PEi (pe_ifExp hc ha hb) fun σ H Q ⟨G, ρ, C, P, st, v, q⟩ => ⟨G, ρ, C, _, st, v, fun k ρ1 C1 G1 H1 h1 s1 f1 => ?_⟩
  cases k with
  | true =>
    rw [if_pos rfl]
    exact ⟨G1, ρ1, C1, P, s1, h1, fun d ρ2 C2 u G2 H2 h2 s2 f2 r2 => q d ρ2 C2 u G2 H2 h2 s2 (f1.trans f2) r2⟩
  | false =>
    rw [if_neg (by decide)]
    exact ⟨G1, ρ1, C1, P, s1, h1, fun d ρ2 C2 u G2 H2 h2 s2 f2 r2 => q d ρ2 C2 u G2 H2 h2 s2 (f1.trans f2) r2⟩
/-- a and b, a or b -/
abbrev boV (op : BoolOp) (va vb : Ro → Cs → KE → XD → Prop) : Ro → Cs → KE → XD → Prop := fun ρ C K xd => va ρ C (fun x ρ1 C1 => wTru (view C1 x) fun b => match op with
        | .And => wIf b (vb ρ1 C1 K xd) (K x ρ1 C1)
        | .Or => wIf b (K x ρ1 C1) (vb ρ1 C1 K xd)) xd
abbrev boT (op : BoolOp) (ta tb : Ro → Cs → KT → XD → Prop) : Ro → Cs → KT → XD → Prop := fun ρ C K xd => ta ρ C (fun b ρ1 C1 => match op with
        | .And => wIf b (tb ρ1 C1 K xd) (K false ρ1 C1)
        | .Or => wIf b (K true ρ1 C1) (tb ρ1 C1 K xd)) xd
theorem le_bo (hK : X.K = T.K) {op : BoolOp} {rest : List Expr} (ha : PE X a (LE T R va)) (hb : PE X (.BoolOp op (b :: rest) pos) (LE T R vb)) : PE X (.BoolOp op (a :: b :: rest) pos) (LE T R (boV op va vb)) := by
  cases op with
  | And =>
    refine PEi (pe_andT ha hb) fun σ H Q ⟨G, ρ, C, P, st, v, q⟩ => ⟨G, ρ, C, _, st, v, fun d ρ1 C1 u G1 H1 h1 s1 f1 r1 => ?_⟩
    obtain ⟨k, ht, hk⟩ := tru_of hK s1.rel r1 h1
    refine ⟨k, ht, ?_⟩
    cases k with
    | true =>
      rw [if_pos rfl]
      exact ⟨G1, ρ1, C1, P, s1, hk, fun d ρ2 C2 u G2 H2 h2 s2 f2 r2 => q d ρ2 C2 u G2 H2 h2 s2 (f1.trans f2) r2⟩
    | false =>
      rw [if_neg (by decide)]
      exact q d ρ1 C1 u G1 H1 hk s1 f1 r1
  | Or =>
    refine PEi (pe_orT ha hb) fun σ H Q ⟨G, ρ, C, P, st, v, q⟩ => ⟨G, ρ, C, _, st, v, fun d ρ1 C1 u G1 H1 h1 s1 f1 r1 => ?_⟩
    obtain ⟨k, ht, hk⟩ := tru_of hK s1.rel r1 h1
    refine ⟨k, ht, ?_⟩
    cases k with
    | true =>
      rw [if_pos rfl]
      exact q d ρ1 C1 u G1 H1 hk s1 f1 r1
    | false =>
      rw [if_neg (by decide)]
      exact ⟨G1, ρ1, C1, P, s1, hk, fun d ρ2 C2 u G2 H2 h2 s2 f2 r2 => q d ρ2 C2 u G2 H2 h2 s2 (f1.trans f2) r2⟩
theorem lw_bo {op : BoolOp} {rest : List Expr} {ta tb : Ro → Cs → KT → XD → Prop} (ha : PT X a (LT T R ta)) (hb : PW X (.BoolOp op (b :: rest) pos) (LT T R tb)) : PW X (.BoolOp op (a :: b :: rest) pos) (LT T R (boT op ta tb)) := by
  cases op with
  | And =>
    refine PWi (pw_and ha hb) fun σ H Q ⟨G, ρ, C, P, st, v, q⟩ => ⟨G, ρ, C, _, st, v, fun k ρ1 C1 G1 H1 h1 s1 f1 => ?_⟩
    cases k with
    | true =>
      rw [if_pos rfl]
      exact ⟨G1, ρ1, C1, P, s1, h1, fun d ρ2 C2 G2 H2 h2 s2 f2 => q d ρ2 C2 G2 H2 h2 s2 (f1.trans f2)⟩
    | false =>
      rw [if_neg (by decide)]
      exact q _ ρ1 C1 G1 H1 h1 s1 f1
  | Or =>
    refine PWi (pw_or ha hb) fun σ H Q ⟨G, ρ, C, P, st, v, q⟩ => ⟨G, ρ, C, _, st, v, fun k ρ1 C1 G1 H1 h1 s1 f1 => ?_⟩
    cases k with
    | true =>
      rw [if_pos rfl]
      exact q _ ρ1 C1 G1 H1 h1 s1 f1
    | false =>
      rw [if_neg (by decide)]
      exact ⟨G1, ρ1, C1, P, s1, h1, fun d ρ2 C2 G2 H2 h2 s2 f2 => q d ρ2 C2 G2 H2 h2 s2 (f1.trans f2)⟩
theorem lw_bo1 {op : BoolOp} {ta : Ro → Cs → KT → XD → Prop} (ha : PT X a (LT T R ta)) : PW X (.BoolOp op [a] pos) (LT T R ta) := by
  cases op with
  | And => exact pw_and1 ha
  | Or => exact pw_or1 ha

/-! ### lists of expressions, displays -/
theorem ll_nil : PA X [] (LL T R fun ρ C K _ => K [] ρ C) := PAi pa_nil fun σ H Q ⟨G, ρ, C, P, st, v, q⟩ => q [] ρ C [] G H v st Fr.refl rfl
theorem ll_cons {vr : WL} (ha : PE X e (LE T R va)) (hr : PA X es (LL T R vr)) (hs : starEach (e :: es) X.env = (false, eval e X.env) :: starEach es X.env) :
    PA X (e :: es) (LL T R fun ρ C K xd => va ρ C (fun x ρ1 C1 => vr ρ1 C1 (fun ds ρ2 C2 => K (x :: ds) ρ2 C2) xd) xd) :=
  PAi (pa_cons ha hr hs) fun σ H Q ⟨G, ρ, C, P, st, v, q⟩ => ⟨G, ρ, C, _, st, v, fun x ρ1 C1 u G1 H1 h1 s1 f1 r1 => ⟨G1, ρ1, C1, _, s1, h1, fun ds ρ2 C2 us G2 H2 h2 s2 f2 r2 =>
    q (x :: ds) ρ2 C2 (u :: us) G2 H2 h2 s2 (f1.trans f2) (.cons (r1.up f2.up) r2)⟩⟩
theorem ll_star (hK : X.K = T.K) {vr : WL} {p : Pos} (ha : PE X e (LE T R va)) (hr : PA X es (LL T R vr)) (hs : starEach (.Starred e p :: es) X.env = (true, eval e X.env) :: starEach es X.env) :
    PA X (.Starred e p :: es) (LL T R fun ρ C K xd => va ρ C (fun x ρ1 C1 => itsD (view C1 x) fun xs => vr ρ1 C1 (fun ds ρ2 C2 => K (xs ++ ds) ρ2 C2) xd) xd) := by
  refine PAi (StX.pa_star ha hr hs) fun σ H Q ⟨G, ρ, C, P, st, v, q⟩ => ⟨G, ρ, C, _, st, v, fun x ρ1 C1 u G1 H1 h1 s1 f1 r1 => ?_⟩
  have tx := top_view s1.rel r1
  generalize view C1 x = x' at h1 tx
  have fin : ∀ ds us, Reps T G1 ds us → vr ρ1 C1 (fun es ρ2 C2 => P (ds ++ es) ρ2 C2) R.xd → LL T R vr σ H1 fun ys H2 => Q (us ++ ys) H2 := fun ds us hr h2 =>
    ⟨G1, ρ1, C1, _, s1, h2, fun es ρ2 C2 ws G2 H2 h3 s2 f2 r2 => q (ds ++ es) ρ2 C2 (us ++ ws) G2 H2 h3 s2 (f1.trans f2) ((Reps.up f2.up _ _ hr).app r2)⟩
  cases x' with
  | scr ns =>
    obtain ⟨p, rfl, ha⟩ := tx
    exact ⟨p, _, rfl, .inr (hK ▸ ha), fin _ _ (Reps.ofInts ns) h1⟩
  | lst ds =>
    obtain ⟨p, vs, rfl, ha, hr⟩ := tx
    exact ⟨p, vs, rfl, .inr (SqL.of ha), fin ds vs hr h1⟩
  | tup ds =>
    obtain ⟨p, vs, rfl, ha, hr⟩ := tx
    exact ⟨p, vs, rfl, .inl (hK ▸ ha), fin ds vs hr h1⟩
  | _ => exact (show False from h1).elim
theorem le_tup {x1 : Nat} {vl : WL} (h : PA X es (LL T R vl)) : PE X (.Tuple es x1 pos) (LE T R fun ρ C K xd => vl ρ C (fun ds ρ1 C1 => ds.length ≤ sizeLine ∧ K (.tup ds) ρ1 C1) xd) := by
  refine PEi (pe_tup h) fun σ H Q ⟨G, ρ, C, P, st, v, q⟩ => ⟨G, ρ, C, _, st, v, fun ds ρ1 C1 us G1 H1 h1 s1 f1 r1 => ⟨by rw [r1.len]; exact h1.1, fun p hp => ?_⟩⟩
  obtain ⟨r2, f2⟩ := s1.rel.lay (o := .tup us) hp
  exact q _ ρ1 C1 _ _ _ h1.2 (s1.step r2 f2) (f1.trans f2) (rep_tup r1 (s1.rel.fresh hp).1)
theorem le_lst {mu : Bool} {vl : WL} (h : PA X es (LL T R vl)) : PE X (.List es pos) (LE T R fun ρ C K xd => vl ρ C (fun ds ρ1 C1 => ds.length ≤ sizeLine ∧ newW mu (.lst ds) (.lst ds) ρ1 C1 K) xd) := by
  refine PEi (pe_lst h) fun σ H Q ⟨G, ρ, C, P, st, v, q⟩ => ⟨G, ρ, C, _, st, v, fun ds ρ1 C1 us G1 H1 h1 s1 f1 r1 => ⟨by rw [r1.len]; exact h1.1, fun p hp => ?_⟩⟩
  cases mu with
  | false =>
    obtain ⟨r2, f2⟩ := s1.rel.lay (o := .lst us) hp
    exact q _ ρ1 C1 _ _ _ h1.2 (s1.step r2 f2) (f1.trans f2) (rep_lst r1 (s1.rel.fresh hp).1)
  | true =>
    obtain ⟨r2, f2⟩ := s1.rel.new (co := .lst ds) (o := .lst us) hp ⟨us, rfl, r1⟩
    exact q _ ρ1 _ _ _ _ (h1.2 p (s1.rel.fresh hp).2) (s1.step r2 f2) (f1.trans f2) rfl

theorem le_dnew : PE X (.Dict [] [] pos) (LE T R fun ρ C K _ => newW true .non (.dct [] []) ρ C K) := by
  refine PEi pe_dnewK fun σ H Q ⟨G, ρ, C, P, st, v, q⟩ p hp => ?_
  obtain ⟨r2, f2⟩ := st.rel.new (co := .dct [] []) (o := .dK []) hp ⟨[], rfl, rfl, Reps.nil⟩
  exact q _ ρ _ _ _ _ (v p (st.rel.fresh hp).2) (st.step r2 f2) f2 rfl
/-! ### slices -/
theorem lo_none : PO X none (LO T R fun ρ C K _ => K none ρ C) := POi po_none fun σ H Q ⟨G, ρ, C, P, st, v, q⟩ => q none ρ C G H v st Fr.refl
theorem lo_some (ha : PE X a (LE T R va)) : PO X (some a) (LO T R fun ρ C K xd => va ρ C (fun x ρ1 C1 => match x with
      | .int i => K (some i) ρ1 C1
      | _ => False) xd) := by
  refine POi (po_some ha) fun σ H Q ⟨G, ρ, C, P, st, v, q⟩ => ⟨G, ρ, C, _, st, v, fun x ρ1 C1 u G1 H1 h1 s1 f1 r1 => ?_⟩
  cases x with
  | int i =>
    obtain rfl : u = .int i := r1
    exact ⟨i, rfl, q _ ρ1 C1 G1 H1 h1 s1 f1⟩
  | _ => exact (show False from h1).elim
theorem le_slice (hK : X.K = T.K) {lo hi : Option Expr} {p2 : Pos} {vl vh : Ro → Cs → (Option Int → Ro → Cs → Prop) → XD → Prop} (ha : PE X a (LE T R va)) (hl : PO X lo (LO T R vl)) (hh : PO X hi (LO T R vh)) :
    PE X (.Subscript a (.Slice lo hi none p2) pos) (LE T R fun ρ C K xd => va ρ C (fun x ρ1 C1 => vl ρ1 C1 (fun l ρ2 C2 => vh ρ2 C2 (fun h ρ3 C3 => sliD (view C3 x) l h fun z => K z ρ3 C3) xd) xd) xd) :=
  PEi (pe_slice (sli_ok hK) ha hl hh) fun σ H Q ⟨G, ρ, C, P, st, v, q⟩ => ⟨G, ρ, C, _, st, v, fun x ρ1 C1 u G1 H1 h1 s1 f1 r1 => ⟨G1, ρ1, C1, _, s1, h1, fun l ρ2 C2 G2 H2 h2 s2 f2 => ⟨G2, ρ2, C2, _, s2, h2, fun h ρ3 C3 G3 H3 h3 s3 f3 =>
    ⟨G3, C3, x, _, s3.rel, (r1.up f2.up).up f3.up, h3, fun z w G' H' k rel fr rep => q z ρ3 C3 w G' H' k (s3.step rel fr) (((f1.trans f2).trans f3).trans fr) rep⟩⟩⟩⟩
theorem le_rev {k : Nat} {p1 p2 p3 : Pos} (ha : PE X a (LE T R va)) : PE X (.Subscript a (.Slice none none (some (.UnaryOp .USub (.Constant (.int 1) k p1) p2)) p3) pos) (LE T R fun ρ C K xd => va ρ C (fun x ρ1 C1 => revD (view C1 x) fun z => K z ρ1 C1) xd) := by
  refine PEi (pe_revL ha) fun σ H Q ⟨G, ρ, C, P, st, v, q⟩ => ⟨G, ρ, C, _, st, v, fun x ρ1 C1 u G1 H1 h1 s1 f1 r1 => ?_⟩
  have tx := top_view s1.rel r1
  generalize view C1 x = x' at h1 tx
  cases x' with
  | lst ds =>
    obtain ⟨a, vs, rfl, ha, hr⟩ := tx
    refine ⟨a, vs, rfl, SqL.of ha, fun p hp => ?_⟩
    obtain ⟨r2, f2⟩ := s1.rel.lay (o := .lst vs.reverse) hp
    exact q _ ρ1 C1 _ _ _ h1 (s1.step r2 f2) (f1.trans f2) (rep_lst hr.rev (s1.rel.fresh hp).1)
  | _ => exact (show False from h1).elim

/-! ### f-strings -/
theorem le_fmt (ha : PE X a (LE T R va)) : PE X (.FormattedValue a (-1) none pos) (LE T R fun ρ C K xd => va ρ C (fun x ρ1 C1 => match x with
      | .str a => a.length ≤ sizeLine ∧ K (.str a) ρ1 C1
      | .int i => i.natAbs.log2 < 1920 ∧ K (.str (toString i)) ρ1 C1
      | _ => False) xd) := by
  refine PEi (pe_fmt ha) fun σ H Q ⟨G, ρ, C, P, st, v, q⟩ => ⟨G, ρ, C, _, st, v, fun x ρ1 C1 u G1 H1 h1 s1 f1 r1 => ?_⟩
  cases x with
  | str y =>
    obtain rfl : u = .str y := r1
    exact .inl ⟨y, rfl, h1.1, q _ ρ1 C1 _ G1 H1 h1.2 s1 f1 rfl⟩
  | int i =>
    obtain rfl : u = .int i := r1
    exact .inr ⟨i, rfl, h1.1, q _ ρ1 C1 _ G1 H1 h1.2 s1 f1 rfl⟩
  | _ => exact (show False from h1).elim
/-- the parts of an f-string -/
def LJ (T : Tb) (R : Rg) (v : Ro → Cs → Str → (Str → Ro → Cs → Prop) → XD → Prop) (ts : List TE) : Prop := ∀ σ H acc (Q : Str → Hp → Prop) G ρ C P, Stt T R G H σ ρ C → v ρ C acc P R.xd →
  (∀ out ρ' C' G' H', P out ρ' C' → Stt T R G' H' σ ρ' C' → Fr G H C G' H' C' → Q out H') → tJs ts acc σ H Q
theorem lj_nil : LJ T R (fun ρ C acc K _ => K acc ρ C) [] := fun σ H acc Q G ρ C P st v q => q acc ρ C G H v st Fr.refl
theorem lj_cons {vr : Ro → Cs → Str → (Str → Ro → Cs → Prop) → XD → Prop} {ts : List TE} (h : LJ T R vr ts) :
    LJ T R (fun ρ C acc K xd => va ρ C (fun x ρ1 C1 => strD x fun y => (acc ++ y).length ≤ sizeLine ∧ vr ρ1 C1 (acc ++ y) K xd) xd) (LE T R va :: ts) := fun σ H acc Q G ρ C P st v q => by
  refine ⟨G, ρ, C, _, st, v, fun x ρ1 C1 u G1 H1 h1 s1 f1 r1 => ?_⟩
  cases x with
  | str y =>
    obtain rfl : u = .str y := r1
    exact ⟨y, rfl, h1.1, h σ H1 _ Q G1 ρ1 C1 P s1 h1.2 fun out ρ2 C2 G2 H2 h2 s2 f2 => q out ρ2 C2 G2 H2 h2 s2 (f1.trans f2)⟩
  | _ => exact (show False from h1).elim
theorem le_fstr {v1 v2 : Expr} {rest : List Expr} {ts : List TE} {vj : Ro → Cs → Str → (Str → Ro → Cs → Prop) → XD → Prop} (h : PJ X (v1 :: v2 :: rest) ts) (hj : LJ T R vj ts) :
    PE X (.JoinedStr (v1 :: v2 :: rest) pos) (LE T R fun ρ C K xd => vj ρ C Str.empty (fun s ρ1 C1 => K (.str s) ρ1 C1) xd) :=
  PEi (pe_joined h) fun σ H Q ⟨G, ρ, C, P, st, v, q⟩ => hj σ H _ _ G ρ C _ st v fun out ρ1 C1 G1 H1 h1 s1 f1 => q _ ρ1 C1 _ G1 H1 h1 s1 f1 rfl

theorem le_sset {p1 p2 p3 p4 : Pos} (hc : X.calm = true) (g1 : Gl X "sorted") (m1 : X.mg "sorted" = none) (g2 : Gl X "set") (m2 : X.mg "set" = none) (ha : PE X a (LE T R va))
    (na : starEach [a] X.env = (false, eval a X.env) :: starEach [] X.env) :
    PE X (.Call (.Name "sorted" p1) [.Call (.Name "set" p2) [a] [] p3] [] p4) (LE T R fun ρ C K xd => va ρ C (fun x ρ1 C1 => ssetD (view C1 x) fun z => K z ρ1 C1) xd) := by
  refine PEi (pe_sset hc g1 m1 g2 m2 ha na) fun σ H Q ⟨G, ρ, C, P, st, v, q⟩ => ⟨G, ρ, C, _, st, v, fun x ρ1 C1 u G1 H1 h1 s1 f1 r1 => ?_⟩
  obtain ⟨ns, e, h64, h⟩ := h1
  have tx := top_view s1.rel r1
  rw [e] at tx
  obtain ⟨b, rfl, hb⟩ := top_ints tx
  refine sset_of (SqL.of hb) h64 fun p p2 o ms b1 b2 b3 hp hp2 => ?_
  obtain ⟨r2, f2⟩ := s1.rel.lay (o := o) hp
  obtain ⟨r3, f3⟩ := r2.lay (o := .lst (ms.map V.int)) hp2
  exact q _ ρ1 C1 _ _ _ (h ms b1 b2 b3) (s1.step r3 (f2.trans f3)) (f1.trans (f2.trans f3)) (rep_lst (Reps.ofInts ms) (r2.fresh hp2).1)
theorem le_step {p3 : Pos} (ha : PE X a (LE T R va)) (hb : PE X b (LE T R vb)) : PE X (.Subscript a (.Slice none none (some b) p3) pos) (LE T R fun ρ C K xd => va ρ C (fun x ρ1 C1 => vb ρ1 C1 (fun y ρ2 C2 => stepD (view C2 x) y fun z => K z ρ2 C2) xd) xd) := by
  refine PEi (pe_stepL ha hb) fun σ H Q ⟨G, ρ, C, P, st, v, q⟩ => ⟨G, ρ, C, _, st, v, fun x ρ1 C1 u G1 H1 h1 s1 f1 r1 => ⟨G1, ρ1, C1, _, s1, h1, fun y ρ2 C2 w G2 H2 h2 s2 f2 r2 => ?_⟩⟩
  obtain ⟨ds, k, e, rfl, k0, h⟩ := h2
  obtain rfl : w = .int (k : Int) := r2
  have tx := top_view s2.rel (r1.up f2.up)
  rw [e] at tx
  obtain ⟨c, vs, rfl, hc, hr⟩ := tx
  refine ⟨_, rfl, c, vs, k, rfl, rfl, k0, SqL.of hc, fun p hp => ?_⟩
  obtain ⟨r3, f3⟩ := s2.rel.lay (o := .lst (stepL vs k)) hp
  refine q _ ρ2 C2 _ _ _ h (s2.step r3 f3) ((f1.trans f2).trans f3) (rep_lst ?_ (s2.rel.fresh hp).1)
  unfold stepL
  rw [hr.len]
  exact hr.pick _
/-! ### calls of built-in things -/
theorem le_cb {f : String} {e : Expr} {vl : WL} (h : PE X e (tCB (rBi T f) (LL T R vl))) : PE X e (LE T R fun ρ C K xd => vl ρ C (fun ds ρ1 C1 => biD f (ds.map (view C1)) fun z => K z ρ1 C1) xd) :=
  PEi h fun σ H Q ⟨G, ρ, C, P, st, v, q⟩ => ⟨G, ρ, C, _, st, v, fun ds ρ1 C1 us G1 H1 h1 s1 f1 r1 =>
    ⟨G1, C1, ds, _, s1.rel, r1, h1, fun z w G' H' k rel fr rep => q z ρ1 C1 w G' H' k (s1.step rel fr) (f1.trans fr) rep⟩⟩
theorem top_tyV (hK : X.K = T.K) {t : String} {u : V} {x : D} (h : Top T G H x u) (ht : (t = "str" ∧ ∃ a, x = .str a) ∨ (t = "list" ∧ ∃ ds, x = .lst ds)) : tyV X.K t u H := by
  rcases ht with ⟨rfl, a, rfl⟩ | ⟨rfl, ds, rfl⟩
  · obtain rfl := h
    exact rfl
  · obtain ⟨a, vs, rfl, ha, _⟩ := h
    exact .inl ⟨rfl, vs, SqL.of ha⟩
end
end Mp

set_option Elab.async false
set_option linter.all false
set_option maxRecDepth 100000
set_option maxHeartbeats 4000000
/-! Mp, part E2: the room of a call with the guards known (no repr under way), what a def promises there, and how it is called. -/
namespace Mp
open PySem PySem.Spec L2
open PyProof.Rows (envOfC)

structure Room (n : Nat) (B : Around) : Prop where
  r : L2.Room n B
  gd : B.guards = some []
section
variable {n m : Nat} {B : Around}
theorem Room.mono (h : Mp.Room n B) (q : m ≤ n) : Mp.Room m B := ⟨h.r.mono q, h.gd⟩
theorem Room.deeper (h : Mp.Room (n + 1) B) (v : Env) : Mp.Room n (B.deeper v) := ⟨h.r.deeper v, h.gd⟩
theorem Room.in1 (h : Mp.Room (n + 1) B) : Mp.Room n B.in1 := ⟨h.r.in1, h.gd⟩
theorem Room.make (h : Mp.Room (n + 1) B) (Cx : Addr) (ws : List Value) (kv : List (Str × Value)) : Mp.Room n (B.under (.builtin "type.__call__" ⟨.ref Cx :: ws, kv⟩)) :=
  ⟨h.r.make Cx ws kv, by
    have e := h.gd
    simp [Around.under, Code.guards, Code.isGuard, guardIds, pushGuards, e]⟩
theorem Room.units (h : Mp.Room n B) : B.units + 64 < cLine := h.r.units
theorem Room.units0 (h : Mp.Room n B) : B.units < cLine := h.r.units0
theorem Room.un (h : Mp.Room n B) : B.units + 16 * n + 200 < cLine := h.r.un
theorem Room.hd (h : Mp.Room n B) : B.handled = none := h.r.hd
end
structure FnOk (P : Program) (w : World) (K : PySem.W.Frag) (mg : Str → Option Value) (base : Heap) (CX : CXT) (n : Nat) (f : Addr) (fd : FuncData) (ps : List Str) (sp : Sp) : Prop where
  len : ∀ xs H Q E, sp xs H Q E → xs.length = ps.length
  run : ∀ (B : Around) (out : List Env) (s : Shared) (H : Hp) (ar : Args) (ws : List Value) (xs : List V) (Q : VK) (E : XK), Mp.Room n B → Env0 P w K mg base B out s H → BindsTo s fd ar (ps.zip ws) → Vals xs ws → sp xs H Q E →
    codeAny (model P w) B (.call (.ref f) ar) (CR CX out P w H s Q E) s
theorem FnOk.mono {P : Program} {w : World} {K : PySem.W.Frag} {mg : Str → Option Value} {base : Heap} {CX : CXT} {m n : Nat} {f : Addr} {fd : FuncData} {ps : List Str} {sp : Sp} (F : Mp.FnOk P w K mg base CX m f fd ps sp) (h : m ≤ n) : Mp.FnOk P w K mg base CX n f fd ps sp :=
  ⟨F.len, fun B out s H ar ws xs Q E hr => F.run B out s H ar ws xs Q E ⟨hr.r.mono h, hr.gd⟩⟩
section
variable {X : Cx} {CX : CXT} {n : Nat} {f Cc p g a dx : Addr} {fs : List (Str × V)} {fd : FuncData} {ps : List Str} {sp : Sp} {dvs : List V} {ds : List Value} {E : XK} {x m : Str} {q pos : Pos} {e : Expr} {es : List Expr} {t : TA} {ta : TE}
/-- what a call's end gives the caller -/
def EndP (X : Cx) (pins : List (Addr × Obj)) (σ : St) (Q : VK) (E' : Value → Shared → Prop) (z : Shared) : Result → Prop
  | .error e => E' e z
  | .ok (.ret u) => EP X pins σ Q u z
  | .ok _ => False
theorem ends_of {pins : List (Addr × Obj)} {σ : St} {H : Hp} {s : Shared} {Q : VK} {E' : Value → Shared → Prop} {o : Result} {z : Shared} (I : Inv X pins σ H s) (hx : ∀ e, CX X.stack H s E e z → E' e z)
    (h : CR CX X.stack X.prog X.w H s Q E o z) : EndP X pins σ Q E' z o := by
  rcases o with e | fl
  · exact hx e h
  · cases fl with
    | ret u => exact I.after h
    | _ => exact False.elim h
theorem run_fnSD {pins : List (Addr × Obj)} {σ : St} {H : Hp} {s : Shared} {Q : VK} {us : List Value} {vs : List V} {E : St → XK} (F : Mp.FnOk X.prog X.w X.K X.mg X.base CX n f fd ps sp) (hr : Mp.Room n X.A) (hb : Binds X.K fd ps ds) (hd : Vals dvs ds)
    (hx : PassesAt CX X σ (E σ)) (I : Inv X pins σ H s) (r : Vals vs us) (h : sp (vs ++ dvs) H Q (E σ)) : wpAny (model X.prog X.w) X.A (call (.ref f) us) (EP X pins σ Q) X.xe s := by
  have rr := r.append hd
  have en : (us ++ ds).length = ps.length := rr.length.symm.trans (F.len _ _ _ _ h)
  refine wpAny_call (codeAny_mono (F.run X.A X.stack s H ⟨us, []⟩ _ _ Q (E σ) hr I.env0 (hb s us I.kIn en) rr h) fun o z ho => ?_)
  have := ends_of (E' := X.xe) I (fun e k => hx pins H s e z I k) ho
  rcases o with e | fl
  · exact this
  · cases fl with
    | ret u => exact this
    | _ => exact False.elim this
theorem pe_callSD {E : St → XK} (F : Mp.FnOk X.prog X.w X.K X.mg X.base CX n f fd ps sp) (hr : Mp.Room n X.A) (hg : Gl X x) (hm : X.mg x = some (.ref f)) (hk : PySem.W.keepIn X.K (.ref f) = true) (hb : Binds X.K fd ps ds) (hd : Vals dvs ds)
    (hx : ∀ σ, PassesAt CX X σ (E σ)) (ha : PA X (e :: es) t) (hdb : (x == ("__debug__" : Str)) = false) (he : starEach (e :: es) X.env = (false, eval e X.env) :: starEach es X.env) (hpl : (backTo pos (starEach es X.env)).any (·.1) = false) :
    PE X (.Call (.Name x q) (e :: es) [] pos) (tCallSD sp dvs E t) := ⟨fun pins s σ H Q I h => by
  refine wpAny_Call_Name_kw (ld_glob I hg hm (PySem.W.callWith_K (h₀ := X.base) I.ok.mod.kin hk (thn (ha.run pos pins s σ H _ I h) ?_) he hpl) hdb)
  rintro ws z ⟨xs, H1, J, r, k⟩
  exact ⟨J.kIn, Mp.run_fnSD F hr hb hd (hx σ) J r k⟩⟩
theorem prop_go {pins : List (Addr × Obj)} {σ : St} {H : Hp} {s : Shared} {Q : VK} {b : Bool} {E' : Value → Shared → Prop} (I : Inv X pins σ H s) (ea : H a = some (.ins Cc dx fs)) (c : Cls X.K Cc) (hp : PropOf X.K Cc m p g) (F : Mp.FnOk X.prog X.w X.K X.mg X.base CX n g fd ps sp)
    (hr : Mp.Room (n + 1) X.A) (hb : Binds X.K fd ps ds) (hd : Vals dvs ds) (hx : Passes CX X.nox E) (h : sp (.ref a :: dvs) H Q E) : wpAny (model X.prog X.w) X.A (getAttr (.ref a) m b) (EP X pins σ Q) E' s := by
  have J := I.tok (s.toks + 1)
  obtain ⟨_, O, _⟩ := ins_get I.hok ea
  obtain ⟨_, O2, _⟩ := O.look
  obtain ⟨_, hrec⟩ := hp.rec_
  obtain ⟨_, hcd, _⟩ := PySem.W.any_some c.hd
  have hcs : (PySem.W.clsIn X.K Cc).isSome = true := by rw [hcd]; rfl
  have rr : Vals ([V.ref a] ++ dvs) ([Value.ref a] ++ ds) := .cons rfl hd
  have en : ([Value.ref a] ++ ds).length = ps.length := rr.length.symm.trans (F.len _ _ _ _ h)
  obtain ⟨g1, g2⟩ := PySem.W.plainGet_of (c.get m)
  refine PySem.W.get_bind I.kIn O2 g1 (PySem.W.findObj_data hcs hp.at_ hp.get hp.tak) g2 (wpAny_call (PySem.W.prop_get (s := { s with toks := s.toks + 1 }) I.kIn hrec ?_))
  refine codeAny_mono (F.run X.A.in1 X.stack _ H ⟨[.ref a], []⟩ _ _ Q E hr.in1 J.env0.in1 (hb _ [.ref a] J.kIn en) rr h) fun o z ho => ?_
  have := ends_of (E' := fun _ _ => False) J (fun e k => hx pins σ H _ e z (J.wish _) k) ho
  rcases o with e | fl
  · exact False.elim this
  · cases fl with
    | ret u =>
      obtain ⟨v, H', J3, rv, k⟩ := this
      show wpAny _ _ (handedOut u) _ _ _
      rw [PySem.W.handedOut_of (handed_of rv)]
      exact wpAny_pure ⟨v, H', J3, rv, k⟩
    | _ => exact False.elim this
theorem pe_prop (he : PE X e ta) (c : Cls X.K Cc) (hp : PropOf X.K Cc m p g) (F : Mp.FnOk X.prog X.w X.K X.mg X.base CX n g fd ps sp) (hr : Mp.Room (n + 1) X.A) (hb : Binds X.K fd ps ds) (hd : Vals dvs ds) (hx : Passes CX X.nox E)
    (hab : attributeBase e m X.env (eval e X.env) = eval e X.env) : PE X (.Attribute e m pos) (tProp Cc sp dvs E ta) := ⟨fun pins s σ H Q I h => by
  refine attr_of hab (thn (he.run pins s σ H _ I h) ?_)
  rintro u z ⟨y, H1, J, ry, b, dy, gs, rfl, eb, k⟩
  obtain rfl : u = Value.ref b := ry
  exact prop_go J eb c hp F hr hb hd hx k⟩
end
/-- a def of the text, by its body -/
theorem fnd_ok {CX : CXT} {P : Program} {w : World} {K : PySem.W.Frag} {mg : Str → Option Value} {base : Heap} {x qual : Str} {params : Arguments} {body : List Stmt} {scope : Scope} {dvs : List V} {kws : List (Str × V)} {f : Addr} {fd : FuncData} {N ps : List Str} {n : Nat} {sp : Sp}
    (D : FunD K x qual params body scope dvs kws f fd) (Sc : FnScope N ps scope) (len : ∀ xs H Q E, sp xs H Q E → xs.length = ps.length)
    (hb : ∀ (cd : Value) (B : Around) (out : List Env) (s : Shared) (H : Hp) (xs : List V) (Q : VK) (E : XK), Mp.Room n (B.deeper (envOfC qual scope s.heap.objs.size f cd)) → sp xs H Q E →
      ∃ t, PSs (cxOf CX P w K mg base N qual scope f cd B out s H E) body t ∧ t { nx := fun _ H' => Q .non H', rt := Q } (L2.start N xs) H) : Mp.FnOk P w K mg base CX (n + 1) f fd ps sp := by
  obtain ⟨_, _, _, _, _, _, _, cd, _, _, rfl, lk, hcd, _⟩ := D.ex
  refine ⟨len, fun B out s H ar ws xs Q E hr e0 hbd r hsp => ?_⟩
  have kin : K.In s.heap := e0.mod.kin.keeps fun b o e => (e0.bs b o e).1
  refine codeAny_call_function hr.r.depth (kin _ _ lk) rfl Sc.co Sc.gen rfl (PySem.W.codeRec_of kin hcd) (hbd _ _ _ _ ?_)
  refine wpAny_newFunctionEnv_cells Sc.kind (fun y hy => ?_) fun env he s1 z => ?_
  · rcases Sc.par y.1 (List.of_mem_zip (a := y.1) (b := y.2) hy).1 with k | k
    · exact .inl k
    · exact .inr ⟨k, PySem.W.cellsFrom_some _ _ _ (.inl k)⟩
  subst he
  obtain ⟨t, ht, hq⟩ := hb cd B out s H xs Q E (hr.deeper _) hsp
  refine ⟨(e0.mod.nolimit.keeps fun b o e => (e0.bs b o e).1).keeps z.toInCall.keep, codeAny_func ?_⟩
  have I := inv_start (CX := CX) (E := E) Sc hr.r.hd e0 (len _ _ _ _ hsp) r z
  have go := ht.run [] s1 (L2.start N xs) H _ I hq
  refine wpAny_mono go (fun fl s' hs => ?_) fun e s' hs => hs
  match fl, hs with
  | .ret u, hs =>
    obtain ⟨v, _, H', J, rv, k⟩ := hs
    exact ⟨v, H', J.os, J.bare, J.base, J.hok, rv, k⟩
  | .next, hs =>
    obtain ⟨_, H', J, k⟩ := hs
    exact ⟨.non, H', J.os, J.bare, J.base, J.hok, rfl, k⟩
  | .brk, hs =>
    obtain ⟨_, _, _, k⟩ := hs
    exact k.elim
  | .cont, hs =>
    obtain ⟨_, _, _, k⟩ := hs
    exact k.elim
end Mp

set_option Elab.async false
set_option linter.all false
set_option maxRecDepth 100000
set_option maxHeartbeats 4000000
/-! Mp, part E3: the law's own call, from its promise with the guards known. -/
namespace Mp
open PySem PySem.Spec L2
open PyProof.Rows (IntsAre AllBare)
/-- the heap in which nothing but the script is tracked -/
noncomputable def scrH (K : PySem.W.Frag) (a : Addr) (vs : List Value) (ns : List Int) : Hp := fun b => if b = a ∧ K.lookup a = none then some (.frz { cls := .type "list", data := .seq vs.toArray } (.lst (ns.map V.int))) else none
section
variable {P : Program} {w : World} {K : PySem.W.Frag} {mg mb : Str → Option Value} {CX : CXT} {n : Nat} {fa a : Addr} {fd : FuncData} {x : Str} {sp : Sp} {z : Shared} {vs : List Value} {ns : List Int}
theorem scr_some {b : Addr} {u} (h : scrH K a vs ns b = some u) : b = a ∧ K.lookup a = none ∧ u = .frz { cls := .type "list", data := .seq vs.toArray } (.lst (ns.map V.int)) := by
  unfold scrH at h
  by_cases c : b = a ∧ K.lookup a = none
  · rw [if_pos c] at h
    exact ⟨c.1, c.2, (Option.some.inj h).symm⟩
  · rw [if_neg c] at h
    cases h
theorem scr_only : Only (scrH K a vs ns) := fun b => by
  cases e : scrH K a vs ns b with
  | none => exact .inl rfl
  | some u =>
    obtain ⟨_, _, rfl⟩ := scr_some e
    exact .inr ⟨_, _, rfl⟩
theorem law_go (kin : K.In z.heap) (hns : z.heap.Ns mainGlobals mg) (hb : z.heap.Ns builtinsNs mb) (hbb : ∀ y : Str, y ≠ "__name__" → mb y = bootBuiltins y) (hlim : z.heap.NoLimit) (hgn : z.gens = #[])
    (ha : z.heap.get? a = some { cls := .type "list", data := .seq vs.toArray }) (hi : IntsAre vs ns) (hl : ns.length ≤ sizeLine) (hr : L2.Room n callerA) (F : ∀ base : Heap, K.In base → base.Ns mainGlobals mg → Mp.FnOk P w K mg base CX n fa fd [x] sp)
    (hbd : ∀ (s : Shared) (u : Value), BindsTo s fd ⟨[u], []⟩ [(x, u)]) (hsp : ∀ H : Hp, Only H → SqL K H a (ns.map V.int) → sp [.ref a] H (fun v _ => v = .bl true) fun _ _ _ => False) (hCX : ∀ H e s', CX [] H z (fun _ _ _ => False) e s' → False) :
    codeAny (model P w) callerA (.call (.ref fa) ⟨[.ref a], []⟩) (fun r s' => r = .ok (.ret (.bool true)) ∧ OldK z.heap s'.heap ∧ s'.os = z.os ∧ AllBare s'.gens) z := by
  have rel := vals_ints hi
  have len := hi.length
  generalize eH : scrH K a vs ns = H
  have hS : ∀ {b : Addr} {u}, H b = some u → b = a ∧ K.lookup a = none ∧ u = .frz { cls := .type "list", data := .seq vs.toArray } (.lst (ns.map V.int)) := fun e => scr_some (vs := vs) (ns := ns) (by rw [eH]; exact e)
  have nil : ∀ {b : Addr}, (b = a → K.lookup a = none → False) → H b = none := fun {b} k => by
    cases e : H b with
    | none => rfl
    | some u =>
      obtain ⟨e1, e2, _⟩ := hS e
      exact (k e1 e2).elim
  have ok : HOk P w H z.heap := fun b u e => by
    obtain ⟨rfl, _, rfl⟩ := hS e
    exact ⟨ha, by rw [List.length_map]; exact hl, vs, _, rel, ha⟩
  have sq : SqL K H a (ns.map V.int) := by
    cases q : K.lookup a with
    | none => exact .inl (.inr ⟨_, by rw [← eH]; exact if_pos ⟨rfl, q⟩⟩)
    | some o =>
      have e := kin a o q
      rw [ha] at e
      cases e
      exact .inr ⟨_, _, _, q, rfl, rfl, rfl, by rw [List.size_toArray, len]; exact hl, by simpa using rel⟩
  have dict : ∀ {b : Addr} {m : Str → Option Value}, z.heap.Ns b m → (hidT z.heap H).Ns b m := fun {b m} ⟨o, es, k, e, d, r⟩ => ⟨o, es, k, hidT_get e (nil fun e1 _ => by
    rw [e1, ha] at e
    cases e
    exact Data.noConfusion d), d, r⟩
  have kb : K.In (hidT z.heap H) := fun b o e => hidT_get (kin b o e) (nil fun e1 e2 => by
    rw [e1, e2] at e
    cases e)
  obtain ⟨mc, l1, l2⟩ := hlim
  have md : Mod K mg (hidT z.heap H) := ⟨kb, dict hns, ⟨mb, dict hb, hbb⟩, ⟨mc, dict l1, l2⟩⟩
  have no : ∀ b : Addr, b ∈ L2.frs [] → H b = none := fun b k => absurd (show b ∈ ([] : List Addr) from k) (by simp)
  have e0 : Env0 P w K mg (hidT z.heap H) callerA [] z H := ⟨rfl, md, fun b o e => of_hidT e, Nat.le_of_eq (hidT_size _ _), trivial, no, ok, .of_eq hgn⟩
  have run := (F _ kb (dict hns)).run callerA [] z H ⟨[.ref a], []⟩ [.ref a] [.ref a] _ _ ⟨hr, rfl⟩ e0 (hbd z (.ref a)) (.cons rfl .nil) (hsp H (by rw [← eH]; exact scr_only) sq)
  refine codeAny_mono run fun o s' k => ?_
  rcases o with e | fl
  · exact (hCX H e s' k).elim
  · cases fl with
    | ret u =>
      obtain ⟨v, H', os, bare, un, ok', r, q⟩ := k
      obtain rfl : v = .bl true := q
      obtain rfl : u = Value.bool true := r
      refine ⟨rfl, OldK.of_keep fun b o e => ?_, os, bare⟩
      cases q : H b with
      | none => exact un.keep b o e q (fun k => absurd (show b ∈ ([] : List Addr) from k) (by simp)) (by simp)
      | some u =>
        obtain ⟨e1, _, rfl⟩ := hS q
        obtain ⟨e2, _⟩ := ok b _ q
        obtain ⟨e3, _⟩ := ok' b _ (un.frzs b _ _ q)
        rw [e] at e2
        cases e2
        exact e3
    | _ => exact False.elim k
end
end Mp

set_option Elab.async false
set_option linter.all false
set_option maxRecDepth 100000
set_option maxHeartbeats 1000000
/-! Mp, part E4: ==, !=, str, repr of an instance of an own class, by its own methods. -/
namespace Mp
open PySem PySem.Spec
section
variable {prog : Program} {w : World} {A : Around} {E : Value → Shared → Prop} {s : Shared} {K : PySem.W.Frag} {x C L f : Addr} {h₀ : Heap} {m : Str → Option Value} {ox : Obj} {od : Option Obj} {name : Str} {id : String} {b tb : Value}
theorem bound_bi {M : Model} {args : List Value} {Q : Option Value → Shared → Prop} (X : K.In s.heap) (J : PySem.W.InstAt s.heap x ox C od) (hs : PySem.W.findIn K (.ref C) name = some (some (.builtin id))) (hb : ∀ v, bindSpecial (.builtin id) v = pure (.builtin id, [v]))
    (h : wpAny M A (call (.builtin id) (.ref x :: args)) (fun v => Q (some v)) E s) : wpAny M A (callSpecialIfBound? (.ref x) name args) Q E s := by
  have go : wpAny M A (call (.builtin id) ([.ref x] ++ args) >>= fun v => pure (some v)) Q E s := wpAny_bind (wpAny_mono h (fun _ _ z => wpAny_pure z) fun _ _ z => z)
  have bd : PySem.W.Looks M s.heap (bindSpecial (.builtin id) (.ref x)) (.builtin id, [.ref x]) := .of_pure (hb _)
  simp only [callSpecialIfBound?, bindSpecialIfBound?]
  refine wpAny_holding (wpAny_bind (wpAny_bind (wpAny_bind ?_)))
  refine J.type.here ((PySem.W.looks_findIn X hs).here ?_)
  refine wpAny_bind (wpAny_askSetting ?_)
  refine wpAny_ite ?_
  split
  · exact wpAny_bind (bd.here (wpAny_pure (by exact go)))
  · exact wpAny_tryCatch (wpAny_bind (bd.here (wpAny_pure (by exact go))))
theorem ne_own {Q : Value → Shared → Prop} (hu : A.units + 1 < cLine) (X : K.In s.heap) (J : PySem.W.InstAt s.heap x ox C od) (hb : PySem.W.Looks (model prog w) s.heap (typeOf b) tb) (hn : PySem.W.notFirst K C tb = true)
    (hne : PySem.W.findIn K (.ref C) "__ne__" = some (some (.builtin "object.__ne__"))) (hm : PySem.W.mroIn K C (.type "object") = some true) (hs : PySem.W.findIn K (.ref C) "__eq__" = some (some (.ref f))) (hf : PySem.W.isFn K (.ref f) = true)
    (h : wpAny (model prog w) A.in1 (call (.ref f) [.ref x, b]) (fun v z => ∃ r, v = .bool r ∧ Q (.bool (!r)) z) E s) : wpAny (model prog w) A (richCompare .NotEq (.ref x) b) Q E s := by
  have one : wpAny (model prog w) A (tryCompare (.ref x) "__ne__" b) (fun r z => ∃ v, r = some v ∧ Q v z) E s := by
    unfold tryCompare
    refine wpAny_bind (bound_bi X J hne F.cmp_object.ne.bind ?_)
    refine wpAny_call (codeAny_call_builtin F.cmp_object.ne.plain F.cmpEntry_ne ?_)
    refine PySem.W.check_slot (i := "object.__ne__") (owner := "object") (n := "__ne__") F.cmpKind_ne F.cmpSplit_ne (J.type.andThen (PySem.W.looks_mroIn X hm)) (F.cmpArgs_ne _ _) ?_
    unfold Builtin.«object.__ne__»
    refine wpAny_bind (wpAny_pure ?_)
    refine wpAny_bind (m := cRoomFor _ _) (wpAny_cRoomFor hu ?_)
    refine wpAny_bind (m := callSpecialIfBound? (.ref x) (Str.ofString "__eq__") _) (PySem.W.ifBound_K X J hs hf (wpAny_mono h (fun v z hv => ?_) fun _ _ e => e))
    obtain ⟨r, rfl, hq⟩ := hv
    exact wpAny_bind (wpAny_pure (wpAny_pure (wpAny_pure ⟨_, rfl, hq⟩)))
  unfold richCompare
  simp only [oneThing_ref]
  refine wpAny_holding (wpAny_bind (wpAny_cRoomFor (by omega) ?_))
  refine wpAny_bind (J.type.here ?_)
  refine wpAny_bind (hb.here ?_)
  split
  · rename_i q
    have e : PySem.W.subIn K tb (.ref C) = some false := by
      cases hc : (tb == Value.ref C) with
      | true =>
        rw [eq_of_beq hc] at q
        simp at q
      | false =>
        unfold PySem.W.notFirst at hn
        rw [hc, Bool.false_or] at hn
        exact eq_of_beq hn
    refine wpAny_bind ((PySem.W.looks_subIn X e).here ?_)
    rw [if_neg (by decide)]
    refine wpAny_bind (wpAny_mono one ?_ fun _ _ e => e)
    rintro r z ⟨v, rfl, hq⟩
    exact wpAny_pure hq
  · refine wpAny_bind (wpAny_pure ?_)
    rw [if_neg (by decide)]
    refine wpAny_bind (wpAny_mono one ?_ fun _ _ e => e)
    rintro r z ⟨v, rfl, hq⟩
    exact wpAny_pure hq
theorem eq_own {Q : Value → Shared → Prop} (hu : A.units < cLine) (X : K.In s.heap) (J : PySem.W.InstAt s.heap x ox C od) (hb : PySem.W.Looks (model prog w) s.heap (typeOf b) tb) (hn : PySem.W.notFirst K C tb = true)
    (hs : PySem.W.findIn K (.ref C) "__eq__" = some (some (.ref f))) (hf : PySem.W.isFn K (.ref f) = true)
    (h : wpAny (model prog w) A (call (.ref f) [.ref x, b]) (fun v z => ∃ r, v = .bool r ∧ Q (.bool r) z) E s) : wpAny (model prog w) A (richCompare .Eq (.ref x) b) Q E s := by
  have one : wpAny (model prog w) A (tryCompare (.ref x) "__eq__" b) (fun r z => ∃ v, r = some v ∧ Q v z) E s := by
    unfold tryCompare
    refine wpAny_bind (PySem.W.ifBound_K X J hs hf (wpAny_mono h (fun v z hv => ?_) fun _ _ e => e))
    obtain ⟨r, rfl, hq⟩ := hv
    exact wpAny_pure ⟨_, rfl, hq⟩
  unfold richCompare
  simp only [oneThing_ref]
  refine wpAny_holding (wpAny_bind (wpAny_cRoomFor hu ?_))
  refine wpAny_bind (J.type.here ?_)
  refine wpAny_bind (hb.here ?_)
  split
  · rename_i q
    have e : PySem.W.subIn K tb (.ref C) = some false := by
      cases hc : (tb == Value.ref C) with
      | true =>
        rw [eq_of_beq hc] at q
        simp at q
      | false =>
        unfold PySem.W.notFirst at hn
        rw [hc, Bool.false_or] at hn
        exact eq_of_beq hn
    refine wpAny_bind ((PySem.W.looks_subIn X e).here ?_)
    rw [if_neg (by decide)]
    refine wpAny_bind (wpAny_mono one ?_ fun _ _ e => e)
    rintro r z ⟨v, rfl, hq⟩
    exact wpAny_pure hq
  · refine wpAny_bind (wpAny_pure ?_)
    rw [if_neg (by decide)]
    refine wpAny_bind (wpAny_mono one ?_ fun _ _ e => e)
    rintro r z ⟨v, rfl, hq⟩
    exact wpAny_pure hq
theorem repr_own {Q : Value → Shared → Prop} (hu : A.in1.units < cLine) (X : K.In s.heap) (J : PySem.W.InstAt s.heap x ox C od) (hs : PySem.W.findIn K (.ref C) "__repr__" = some (some (.ref f))) (hf : PySem.W.isFn K (.ref f) = true)
    (h : wpAny (model prog w) A.in1 (call (.ref f) [.ref x]) (PySem.W.StrBack Q) E s) : wpAny (model prog w) A (call (.builtin "repr") [.ref x]) Q E s := by
  refine Calls.call_function_entry PySem.F.kind_repr PySem.F.plain_repr PySem.F.entry_repr (PySem.F.args_repr1 _) ?_
  unfold Builtin.«repr»
  refine wpAny_bind (m := oneArg "repr" _) (wpAny_pure ?_)
  refine wpAny_bind (wpAny_cRoomFor hu ?_)
  refine wpAny_bind (wpAny_bind (J.type.here ((PySem.W.looks_findIn X hs).here ?_)))
  show wpAny _ _ (if (some (Value.ref f)).isNone = true then _ else _) _ _ _
  rw [if_neg (by simp)]
  refine wpAny_bind (m := callSpecialIfBound? (.ref x) (Str.ofString "__repr__") _) (PySem.W.ifBound_K X J hs hf (wpAny_mono h (fun r s' hr => ?_) fun _ _ y => y))
  cases r <;> first | exact hr.elim | skip
  refine wpAny_bind (wpAny_isInstance (typeIs_str _ _ _) isSubtype_str_str ?_)
  first
    | exact wpAny_pure ⟨_, rfl, hr⟩
    | (rw [if_pos rfl]; exact wpAny_pure ⟨_, rfl, hr⟩)
    | (simp only [if_true]; exact wpAny_pure ⟨_, rfl, hr⟩)
theorem truthy_own {M : Model} {Q : Bool → Shared → Prop} (X : K.In s.heap) (J : PySem.W.InstAt s.heap x ox C od) (hs : PySem.W.findIn K (.ref C) "__bool__" = some none) (hl : PySem.W.findIn K (.ref C) "__len__" = some none)
    (h : Q true s) : wpAny M A (truthy (.ref x)) Q E s := by
  unfold truthy
  refine wpAny_bind (m := callSpecial? (.ref x) (Str.ofString "__bool__")) (wpAny_bind (wpAny_bind (J.type.here ((PySem.W.looks_findIn X hs).here (wpAny_pure ?_)))))
  refine wpAny_bind (wpAny_bind (J.type.here ((PySem.W.looks_findIn X hl).here ?_)))
  exact wpAny_pure h
theorem meets_bool_own (hs : PySem.W.findIn K (.ref C) "__bool__" = some none) (hl : PySem.W.findIn K (.ref C) "__len__" = some none) :
    Meets (Builtin.«bool.__new__» ⟨[.type "bool", .ref x], []⟩) (fun _ R s => (K.In s.heap ∧ PySem.W.InstAt s.heap x ox C od) ∧ R (.ok (.ret (.bool true))) s) :=
  Meets.of_wp fun prog w A R s hz => by
    obtain ⟨⟨X, J⟩, hz⟩ := hz
    obtain ⟨hp, g, d, tk, os⟩ := s
    have f1 := F.conv_sub_bool
    repeat (any_goals (first | assumption | (with_reducible refine truthy_own X J hs hl ?_) | wp_step))
    all_goals first | exact ⟨_, rfl, hz⟩ | exact hz | skip
theorem bool_own {Q : Value → Shared → Prop} (X : K.In s.heap) (J : PySem.W.InstAt s.heap x ox C od) (hs : PySem.W.findIn K (.ref C) "__bool__" = some none) (hl : PySem.W.findIn K (.ref C) "__len__" = some none)
    (h : Q (.bool true) s) : wpAny (model prog w) A (call (.type "bool") [.ref x]) Q E s :=
  call_bool_1 (meets_bool_own (ox := ox) (od := od) hs hl) ⟨⟨X, J⟩, rfl, h⟩
end
end Mp

set_option Elab.async false
set_option linter.all false
set_option maxRecDepth 100000
set_option maxHeartbeats 4000000
/-! Mp, part F: own defs and classes: calls, makings, methods, properties, fields; isinstance; methods of built-in types. -/
namespace Mp
open PySem PySem.Spec L2

section
variable {X : Cx} {T : Tb} {R : Rg} {G H : Hp} {σ : L2.St} {ρ : Ro} {C : Cs}
/-- a callee's promise from where the caller stands -/
theorem sp_go {sp : Spec} {n : Nat} {ds : List D} {us : List V} {K' : D → Cs → Prop} {Q : VK} (st : Stt T R G H σ ρ C) (ok : RgOk T R) (hl : ∀ ds C P PX, sp ds C P PX → ds.length = n) (hr : Reps T G ds us) (h : sp ds C K' fun e C2 => R.xd e ρ C2)
    (q : ∀ d C' u G' H', K' d C' → Stt T R G' H' σ ρ C' → Fr G H C G' H' C' → Rep T G' d u → Q u H') : spL T sp n us H Q (WE R.W σ) :=
  ⟨G, C, ds, K', _, st.rel, hr, hl _ _ _ _ h, h, fun d C' u G' H' k r f rep => q d C' u G' H' k (st.step r f) f rep, fun e C' cls d G' H' k r f x => ok G' H' σ ρ C' e cls d (st.step r f) k x⟩
end
section
variable {X : Cx} {T : Tb} {R : Rg} {CX : CXT} {k n : Nat} {f Cc : Addr} {fd : FuncData} {ps : List Str} {sp : Sp} {ds : List Value} {dvs : List V} {E : St → XK} {x m : Str} {p pos apos : Pos} {e o : Expr} {es : List Expr} {t : TA} {ta : TE}
theorem pe_callSD0 (F : FnOk X.prog X.w X.K X.mg X.base CX k f fd ps sp) (hr : Room k X.A) (hg : Gl X x) (hm : X.mg x = some (.ref f)) (hk : PySem.W.keepIn X.K (.ref f) = true) (hb : Binds X.K fd ps ds) (hd : Vals dvs ds) (hx : ∀ σ, PassesAt CX X σ (E σ))
    (hdb : (x == ("__debug__" : Str)) = false) : PE X (.Call (.Name x p) [] [] pos) (tCallSD sp dvs E tNil) := by
  refine ⟨fun pins s σ H Q I h => ?_⟩
  refine wpAny_Call_Name_kw (ld_glob I hg hm ?_ hdb)
  exact PySem.W.callWith_K0 I.kIn hk (run_fnSD (us := []) F hr hb hd (hx σ) I .nil h)
/-- a new instance, what is raised wished for at the slots -/
theorem run_makeSD {pins : List (Addr × Obj)} {σ : St} {H : Hp} {s : Shared} {Q : VK} {us : List Value} {vs : List V} {E : XK} (M : Mk X.K Cc f) (F : FnOk X.prog X.w X.K X.mg X.base CX k f fd ps sp) (hr : Room (k + 1) X.A) (hb : Binds X.K fd ps ds) (hd : Vals dvs ds)
    (hx : PassesAt CX X σ E) (I : Inv X pins σ H s) (r : Vals vs us)
    (h : ∀ x dx, H x = none → H dx = none → dx ≠ x → sp (.ref x :: (vs ++ dvs)) (upd (upd H dx (.own x)) x (.ins Cc dx [])) (fun v H2 => v = .non ∧ Q (.ref x) H2) E) :
    wpAny (model X.prog X.w) X.A (call (.ref Cc) us) (EP X pins σ Q) X.xe s := by
  have hq := h (s.heap.objs.size + 1) s.heap.objs.size (I.hok.fresh (Nat.le_succ _)) (I.hok.fresh (Nat.le_refl _)) (Nat.ne_of_lt (Nat.lt_succ_self _))
  have I2 := Inv.made (C := Cc) I
  have r2 : Vals (V.ref (s.heap.objs.size + 1) :: (vs ++ dvs)) (Value.ref (s.heap.objs.size + 1) :: (us ++ ds)) := .cons rfl (r.append hd)
  have hl : (Value.ref (s.heap.objs.size + 1) :: us ++ ds).length = ps.length := by
    have e := r2.length
    rw [F.len _ _ _ _ hq] at e
    exact e.symm
  refine wpAny_call (make_map (f := f) I.kIn M.makes M.init (beq_iff_eq.mp M.fn) (codeAny_mono (F.run _ X.stack _ _ ⟨Value.ref (s.heap.objs.size + 1) :: us, []⟩ (Value.ref (s.heap.objs.size + 1) :: (us ++ ds)) _ _ E (hr.make Cc us [])
    (I2.env0.make Cc us []) (hb _ (Value.ref (s.heap.objs.size + 1) :: us) I2.kIn hl) r2 hq) fun r s' hq' => ?_))
  cases r with
  | error e => exact hx pins _ _ e s' I2 hq'
  | ok fl =>
    cases fl with
    | ret u =>
      obtain ⟨v, H', I3, rv, ev, q3⟩ := I2.after hq'
      subst ev
      exact ⟨rv, ⟨V.ref (s.heap.objs.size + 1), H', I3, rfl, q3⟩⟩
    | next => exact False.elim hq'
    | brk => exact False.elim hq'
    | cont => exact False.elim hq'
def tMakeSD (Cc : Addr) (sp : Sp) (dvs : List V) (E : St → XK) (t : TA) : TE := fun σ H Q => t σ H fun vs H1 => ∀ x dx, H1 x = none → H1 dx = none → dx ≠ x →
  sp (.ref x :: (vs ++ dvs)) (upd (upd H1 dx (.own x)) x (.ins Cc dx [])) (fun v H2 => v = .non ∧ Q (.ref x) H2) (E σ)
theorem pe_makeSD (M : Mk X.K Cc f) (F : FnOk X.prog X.w X.K X.mg X.base CX k f fd ps sp) (hr : Room (k + 1) X.A) (hg : Gl X x) (hm : X.mg x = some (.ref Cc)) (hb : Binds X.K fd ps ds) (hd : Vals dvs ds) (hx : ∀ σ, PassesAt CX X σ (E σ))
    (ha : PA X (e :: es) t) (hdb : (x == ("__debug__" : Str)) = false) (he : starEach (e :: es) X.env = (false, eval e X.env) :: starEach es X.env) (hpl : (backTo pos (starEach es X.env)).any (·.1) = false) :
    PE X (.Call (.Name x p) (e :: es) [] pos) (tMakeSD Cc sp dvs E t) := by
  refine ⟨fun pins s σ H Q I h => ?_⟩
  refine wpAny_Call_Name_kw (ld_glob I hg hm ?_ hdb)
  refine PySem.W.callWith_K (h₀ := X.base) I.ok.mod.kin M.kp (thn (ha.run pos pins s σ H _ I h) fun us s1 ⟨vs, H1, I1, r, q⟩ => ⟨I1.kIn, ?_⟩) he hpl
  exact run_makeSD M F hr hb hd (hx σ) I1 r q
theorem pe_makeSD0 (M : Mk X.K Cc f) (F : FnOk X.prog X.w X.K X.mg X.base CX k f fd ps sp) (hr : Room (k + 1) X.A) (hg : Gl X x) (hm : X.mg x = some (.ref Cc)) (hb : Binds X.K fd ps ds) (hd : Vals dvs ds) (hx : ∀ σ, PassesAt CX X σ (E σ))
    (hdb : (x == ("__debug__" : Str)) = false) : PE X (.Call (.Name x p) [] [] pos) (tMakeSD Cc sp dvs E tNil) := by
  refine ⟨fun pins s σ H Q I h => ?_⟩
  refine wpAny_Call_Name_kw (ld_glob I hg hm ?_ hdb)
  exact PySem.W.callWith_K0 I.kIn M.kp (run_makeSD (us := []) M F hr hb hd (hx σ) I .nil h)
def tMethSD (Cc : Addr) (m : Str) (sp : Sp) (dvs : List V) (E : St → XK) (ta : TE) (t : TA) : TE := fun σ H Q => ta σ H fun x H1 => ∃ a dx fs, x = .ref a ∧ H1 a = some (.ins Cc dx fs) ∧ fs.lookup m = none ∧
  t σ H1 fun vs H2 => sp (x :: (vs ++ dvs)) H2 Q (E σ)
theorem pe_methSD {pl : Sem Bool} (he : PE X o ta) (c : Cls X.K Cc) (hm : Meth X.K Cc m f) (F : FnOk X.prog X.w X.K X.mg X.base CX k f fd ps sp) (hr : Room k X.A) (hb : Binds X.K fd ps ds) (hd : Vals dvs ds) (hx : ∀ σ, PassesAt CX X σ (E σ)) (ha : PA X (e :: es) t)
    (hst : starEach (e :: es) X.env = (false, eval e X.env) :: starEach es X.env) (hpl : (backTo pos (starEach es X.env)).any (·.1) = false)
    (ht : eval (.Call (.Attribute o m apos) (e :: es) [] pos) X.env = (do
      let ov ← eval o X.env
      standAt apos.atName
      let (f, first) ← holding [ov] (getMethod ov m pl)
      callWith pos f first (backTo pos (starEach (e :: es) X.env)) (backToKw pos (keywordEach [] X.env)))) :
    PE X (.Call (.Attribute o m apos) (e :: es) [] pos) (tMethSD Cc m sp dvs E ta t) := by
  refine ⟨fun pins s σ H Q I h => ?_⟩
  refine PySem.W.methodCall_KW (pl := pl) (thn (he.run pins s σ H _ I h) fun u s1 ⟨x, H1, I1, rx, a, dx, fs, ex, ea, l, q⟩ => ?_) ht
  subst ex
  obtain rfl : u = Value.ref a := rx
  refine getmeth_ok I1 ea c hm l ?_
  refine PySem.W.callWith_K (first := [.ref a]) (h₀ := X.base) I.ok.mod.kin hm.kp (thn (ha.run pos pins s1 σ H1 _ I1 q) fun us s2 ⟨vs, H2, I2, r, q2⟩ => ⟨I2.kIn, ?_⟩) hst hpl
  exact run_fnSD (us := .ref a :: us) (vs := .ref a :: vs) F hr hb hd (hx σ) I2 (.cons rfl r) q2
theorem pe_methSD0 {pl : Sem Bool} (he : PE X o ta) (c : Cls X.K Cc) (hm : Meth X.K Cc m f) (F : FnOk X.prog X.w X.K X.mg X.base CX k f fd ps sp) (hr : Room k X.A) (hb : Binds X.K fd ps ds) (hd : Vals dvs ds) (hx : ∀ σ, PassesAt CX X σ (E σ))
    (ht : eval (.Call (.Attribute o m apos) [] [] pos) X.env = (do
      let ov ← eval o X.env
      standAt apos.atName
      let (f, first) ← holding [ov] (getMethod ov m pl)
      callWith pos f first (backTo pos (starEach [] X.env)) (backToKw pos (keywordEach [] X.env)))) :
    PE X (.Call (.Attribute o m apos) [] [] pos) (tMethSD Cc m sp dvs E ta tNil) := by
  refine ⟨fun pins s σ H Q I h => ?_⟩
  refine PySem.W.methodCall_KW (pl := pl) (thn (he.run pins s σ H _ I h) fun u s1 ⟨x, H1, I1, rx, a, dx, fs, ex, ea, l, q⟩ => ?_) ht
  subst ex
  obtain rfl : u = Value.ref a := rx
  refine getmeth_ok I1 ea c hm l ?_
  exact PySem.W.callWith_K0 (first := [.ref a]) I1.kIn hm.kp (run_fnSD (us := [.ref a]) (vs := [.ref a]) F hr hb hd (hx σ) I1 (.cons rfl .nil) q)
end

/-! ### calls lifted -/
section
variable {X : Cx} {T : Tb} {R : Rg} {k n nd : Nat} {f : Addr} {fd : FuncData} {ps : List Str} {sp : Spec} {ds : List Value} {dvs : List V} {x m : Str} {p pos apos : Pos} {e o : Expr} {es : List Expr} {vl : WL} {va : Ro → Cs → KE → XD → Prop} {c : Nat}
abbrev wCall (sp : Spec) (nd : Nat) (vl : WL) : Ro → Cs → KE → XD → Prop := fun ρ C K xd => vl ρ C (fun ds ρ1 C1 => sp (ds ++ List.replicate nd (.tup [])) C1 (fun r C2 => K r ρ1 C2) fun e C2 => xd e ρ1 C2) xd
/-- the defaults: nd times the empty tuple -/
structure Dfs (T : Tb) (fd : FuncData) (ps : List Str) (nd : Nat) (dvs : List V) (ds : List Value) : Prop where
  b : Binds T.K fd ps ds
  v : Vals dvs ds
  r : ∀ G, Reps T G (List.replicate nd (.tup [])) dvs
theorem call_imp {σ : L2.St} {H : Hp} {Q : VK} (ok : RgOk T R) (hl : ∀ ds C P PX, sp ds C P PX → ds.length = n) (db : Dfs T fd ps nd dvs ds) (h : LE T R (wCall sp nd vl) σ H Q) : tCallSD (spL T sp n) dvs (WE R.W) (LL T R vl) σ H Q := by
  obtain ⟨G, ρ, C, P, st, v, q⟩ := h
  exact ⟨G, ρ, C, _, st, v, fun xs ρ1 C1 us G1 H1 h1 s1 f1 r1 => sp_go s1 ok hl (r1.app (db.r G1)) h1 fun d C' u G' H' k s2 f2 rep => q d ρ1 C' u G' H' k s2 (f1.trans f2) rep⟩
theorem le_call (hK : X.K = T.K) (F : FnOk X.prog X.w X.K X.mg X.base (L2.CX X.prog X.w) k f fd ps (spL T sp n)) (hl : ∀ ds C P PX, sp ds C P PX → ds.length = n) (hr : Room k X.A) (hg : Gl X x) (hm : X.mg x = some (.ref f)) (hk : PySem.W.keepIn X.K (.ref f) = true)
    (db : Dfs T fd ps nd dvs ds) (tk : Takes X R.W) (ok : RgOk T R) (ha : PA X (e :: es) (LL T R vl)) (hdb : (x == ("__debug__" : Str)) = false) (he : starEach (e :: es) X.env = (false, eval e X.env) :: starEach es X.env) (hpl : (backTo pos (starEach es X.env)).any (·.1) = false) :
    PE X (.Call (.Name x p) (e :: es) [] pos) (LE T R (wCall sp nd vl)) :=
  PEi (pe_callSD F hr hg hm hk (hK ▸ db.b) db.v (passAt tk) ha hdb he hpl) fun σ H Q h => call_imp ok hl db h
theorem le_call0 (hK : X.K = T.K) (F : FnOk X.prog X.w X.K X.mg X.base (L2.CX X.prog X.w) k f fd ps (spL T sp n)) (hl : ∀ ds C P PX, sp ds C P PX → ds.length = n) (hr : Room k X.A) (hg : Gl X x) (hm : X.mg x = some (.ref f)) (hk : PySem.W.keepIn X.K (.ref f) = true)
    (db : Dfs T fd ps nd dvs ds) (tk : Takes X R.W) (ok : RgOk T R) (hdb : (x == ("__debug__" : Str)) = false) :
    PE X (.Call (.Name x p) [] [] pos) (LE T R (wCall sp nd fun ρ C K _ => K [] ρ C)) :=
  PEi (pe_callSD0 F hr hg hm hk (hK ▸ db.b) db.v (passAt tk) hdb) fun σ H Q ⟨G, ρ, C, P, st, v, q⟩ => sp_go st ok hl (Reps.nil.app (db.r G)) v fun d C' u G' H' k s2 f2 rep => q d ρ C' u G' H' k s2 f2 rep
abbrev wMake (sp : Spec) (nd c : Nat) (mu : Bool) (vl : WL) : Ro → Cs → KE → XD → Prop := fun ρ C K xd => vl ρ C (fun ds ρ1 C1 => ∀ a, C1 a = none → sp (.ref a :: (ds ++ List.replicate nd (.tup []))) (cset C1 a (.ins c [])) (fun r C2 => r = .non ∧ madeW mu c a ρ1 C2 K) fun e C2 => xd e ρ1 C2) xd
theorem make_go {mu : Bool} {σ : L2.St} {G H : Hp} {ρ : Ro} {C : Cs} {xs : List D} {us : List V} {P : KE} {Q : VK} (st : Stt T R G H σ ρ C) (ok : RgOk T R) (hl : ∀ ds C P PX, sp ds C P PX → ds.length = n) (r1 : Reps T G xs us)
    (h : ∀ a, C a = none → sp (.ref a :: xs) (cset C a (.ins c [])) (fun r C2 => r = .non ∧ madeW mu c a ρ C2 P) fun e C2 => R.xd e ρ C2)
    (q : ∀ d C' u G' H', P d ρ C' → Stt T R G' H' σ ρ C' → Fr G H C G' H' C' → Rep T G' d u → Q u H') (x dx : Addr) (hx : H x = none) (hd : H dx = none) (ne : dx ≠ x) :
    spL T sp n (.ref x :: us) (upd (upd H dx (.own x)) x (.ins (T.cl c) dx [])) (fun v H2 => v = .non ∧ Q (.ref x) H2) (WE R.W σ) := by
  obtain ⟨r2, f2⟩ := st.rel.add (o := .own x) hd
  have hx' : upd H dx (.own x) x = none := by rw [upd_ne (Ne.symm ne)]; exact hx
  obtain ⟨r3, f3⟩ := r2.new (co := .ins c []) (o := .ins (T.cl c) dx []) hx' ⟨dx, [], rfl, rfl, rfl⟩
  have s3 := st.step r3 (f2.trans f3)
  refine sp_go s3 ok hl (Reps.cons (show Rep T G (.ref x) (.ref x) from rfl) r1) (h x (st.rel.fresh hx).2) fun d C' u G' H' k s4 f4 rep => ?_
  obtain ⟨rfl, k⟩ := k
  obtain rfl : u = .non := rep
  refine ⟨rfl, ?_⟩
  cases mu with
  | true => exact q _ C' _ G' H' k s4 ((f2.trans f3).trans f4) rfl
  | false =>
    obtain ⟨vs, ec, k⟩ := k
    obtain ⟨_, ho, eh, dx', fs, rfl, e1, e2⟩ := s4.rel.cel _ _ ec
    obtain ⟨r5, f5⟩ := s4.rel.frz ec eh
    exact q _ _ _ _ H' k (s4.step r5 f5) (((f2.trans f3).trans f4).trans f5) ⟨x, dx', fs, rfl, upd_same, e1, Reps.up f5.up _ _ e2⟩
theorem le_make {mu : Bool} (hK : X.K = T.K) (M : Mk T.K (T.cl c) f) (F : FnOk X.prog X.w X.K X.mg X.base (L2.CX X.prog X.w) k f fd ps (spL T sp n)) (hl : ∀ ds C P PX, sp ds C P PX → ds.length = n) (hr : Room (k + 1) X.A) (hg : Gl X x) (hm : X.mg x = some (.ref (T.cl c)))
    (db : Dfs T fd ps nd dvs ds) (tk : Takes X R.W) (ok : RgOk T R) (ha : PA X (e :: es) (LL T R vl)) (hdb : (x == ("__debug__" : Str)) = false) (he : starEach (e :: es) X.env = (false, eval e X.env) :: starEach es X.env) (hpl : (backTo pos (starEach es X.env)).any (·.1) = false) :
    PE X (.Call (.Name x p) (e :: es) [] pos) (LE T R (wMake sp nd c mu vl)) :=
  PEi (pe_makeSD (hK ▸ M) F hr hg hm (hK ▸ db.b) db.v (passAt tk) ha hdb he hpl) fun σ H Q ⟨G, ρ, C, P, st, v, q⟩ => ⟨G, ρ, C, _, st, v, fun xs ρ1 C1 us G1 H1 h1 s1 f1 r1 x dx hx hd ne =>
    make_go s1 ok hl (r1.app (db.r G1)) h1 (fun d C' u G' H' k s2 f2 rep => q d ρ1 C' u G' H' k s2 (f1.trans f2) rep) x dx hx hd ne⟩
theorem le_make0 {mu : Bool} (hK : X.K = T.K) (M : Mk T.K (T.cl c) f) (F : FnOk X.prog X.w X.K X.mg X.base (L2.CX X.prog X.w) k f fd ps (spL T sp n)) (hl : ∀ ds C P PX, sp ds C P PX → ds.length = n) (hr : Room (k + 1) X.A) (hg : Gl X x) (hm : X.mg x = some (.ref (T.cl c)))
    (db : Dfs T fd ps nd dvs ds) (tk : Takes X R.W) (ok : RgOk T R) (hdb : (x == ("__debug__" : Str)) = false) :
    PE X (.Call (.Name x p) [] [] pos) (LE T R (wMake sp nd c mu fun ρ C K _ => K [] ρ C)) :=
  PEi (pe_makeSD0 (hK ▸ M) F hr hg hm (hK ▸ db.b) db.v (passAt tk) hdb) fun σ H Q ⟨G, ρ, C, P, st, v, q⟩ => fun x dx hx hd ne =>
    make_go st ok hl (Reps.nil.app (db.r G)) v (fun d C' u G' H' k s2 f2 rep => q d ρ C' u G' H' k s2 f2 rep) x dx hx hd ne
/-! ### keywords -/
def pickV (pm : List Nat) (vs : List Value) : List Value := pm.map fun j => vs.getD j .none
def pickU (pm : List Nat) (vs : List V) : List V := pm.map fun j => vs.getD j .non
theorem pick_vals {vs : List V} {us : List Value} (h : Vals vs us) (pm : List Nat) : Vals (pickU pm vs) (pickV pm us) := by
  induction pm with
  | nil => exact .nil
  | cons j pm ih =>
    refine .cons ?_ ih
    show RelV (vs.getD j .non) (us.getD j .none)
    by_cases hj : j < vs.length
    · have e : vs[j]? = some vs[j] := by simp [hj]
      obtain ⟨u, hu, r⟩ := h.get e
      rw [List.getD_eq_getElem?_getD, List.getD_eq_getElem?_getD, e, hu]
      exact r
    · rw [List.getD_eq_getElem?_getD, List.getD_eq_getElem?_getD, List.getElem?_eq_none (by omega), List.getElem?_eq_none (by rw [← h.length]; omega)]
      exact rfl
theorem pick_reps {T : Tb} {G : Hp} {ds : List D} {vs : List V} (h : Reps T G ds vs) (pm : List Nat) : Reps T G (pickD pm ds) (pickU pm vs) := by
  induction pm with
  | nil => exact Reps.nil
  | cons j pm ih =>
    refine Reps.cons ?_ ih
    show Rep T G (ds.getD j .non) (vs.getD j .non)
    by_cases hj : j < ds.length
    · have e : ds[j]? = some ds[j] := by simp [hj]
      obtain ⟨u, hu, r⟩ := h.get e
      rw [List.getD_eq_getElem?_getD, List.getD_eq_getElem?_getD, e, hu]
      exact r
    · rw [List.getD_eq_getElem?_getD, List.getD_eq_getElem?_getD, List.getElem?_eq_none (by omega), List.getElem?_eq_none (by rw [h.len]; omega)]
      exact rfl
/-- how a call with keywords binds -/
def KwB (K : PySem.W.Frag) (fd : FuncData) (ps : List Str) (n : Nat) (ks : List Str) (pm : List Nat) : Prop := ∀ (s : Shared) (us ws : List Value), K.In s.heap → us.length = n → ws.length = ks.length → BindsTo s fd ⟨us, ks.zip ws⟩ (ps.zip (pickV pm (us ++ ws)))
def tCallKS (sp : Sp) (n m : Nat) (pm : List Nat) (E : St → XK) (t tk : TA) : TE := fun σ H Q => t σ H fun vs H1 => tk σ H1 fun zs H2 => vs.length = n ∧ zs.length = m ∧ sp (pickU pm (vs ++ zs)) H2 Q (E σ)
section
variable {X : Cx} {CX : CXT} {k n : Nat} {f : Addr} {fd : FuncData} {ps ks : List Str} {sp : Sp} {pm : List Nat} {E : St → XK} {x : Str} {p pos : Pos} {e : Expr} {es : List Expr} {kws : List Keyword} {t tk : TA}
theorem run_fnKS {pins : List (Addr × Obj)} {σ : St} {H : Hp} {s : Shared} {Q : VK} {us ws : List Value} {vs zs : List V} {E : XK} (F : FnOk X.prog X.w X.K X.mg X.base CX k f fd ps sp) (hr : Room k X.A) (hb : KwB X.K fd ps n ks pm) (hx : PassesAt CX X σ E)
    (I : Inv X pins σ H s) (r : Vals vs us) (rz : Vals zs ws) (l1 : vs.length = n) (l2 : zs.length = ks.length) (h : sp (pickU pm (vs ++ zs)) H Q E) : wpAny (model X.prog X.w) X.A (call (.ref f) us (ks.zip ws)) (EP X pins σ Q) X.xe s := by
  have r2 := pick_vals (r.append rz) pm
  refine wpAny_call (codeAny_mono (F.run X.A X.stack s H ⟨us, ks.zip ws⟩ (pickV pm (us ++ ws)) (pickU pm (vs ++ zs)) Q E hr I.env0 (hb s us ws I.kIn (r.length.symm.trans l1) (rz.length.symm.trans l2)) r2 h) fun r s' hq => ?_)
  cases r with
  | error e => exact hx pins H s e s' I hq
  | ok fl =>
    cases fl with
    | ret u => exact I.after hq
    | next => exact False.elim hq
    | brk => exact False.elim hq
    | cont => exact False.elim hq
theorem pe_callKS (F : FnOk X.prog X.w X.K X.mg X.base CX k f fd ps sp) (hr : Room k X.A) (hg : Gl X x) (hm : X.mg x = some (.ref f)) (hk : PySem.W.keepIn X.K (.ref f) = true) (hb : KwB X.K fd ps n ks pm) (hx : ∀ σ, PassesAt CX X σ (E σ))
    (ha : PA X es t) (hkw : PK X kws tk) (hall : (backToKw pos (keywordEach kws X.env)).all (·.1.isSome) = true) (hks : (backToKw pos (keywordEach kws X.env)).filterMap (·.1) = ks)
    (hdb : (x == ("__debug__" : Str)) = false) (he : es = [] ∨ ∃ e r, es = e :: r ∧ starEach (e :: r) X.env = (false, eval e X.env) :: starEach r X.env)
    (hpl : ((backTo pos (starEach es X.env)).any (·.1) || (backToKw pos (keywordEach kws X.env)).any (·.1.isNone)) = false) (he0 : es = [] → t = tNil) :
    PE X (.Call (.Name x p) es kws pos) (tCallKS sp n ks.length pm E t tk) := by
  refine ⟨fun pins s σ H Q I h => ?_⟩
  refine wpAny_Call_Name_kw (ld_glob I hg hm ?_ hdb)
  rcases he with rfl | ⟨e, r, rfl, he⟩
  · obtain rfl := he0 rfl
    refine PySem.W.callWith_KW0 (h₀ := X.base) I.ok.mod.kin hk hall (thn (hkw.run pos pins s σ H _ I h) fun ws s2 ⟨zs, H2, I2, rz, l1, l2, q2⟩ => ⟨I2.kIn, ?_⟩) hpl
    rw [hks]
    exact run_fnKS (us := []) (vs := []) F hr hb (hx σ) I2 .nil rz l1 l2 q2
  · refine PySem.W.callWith_KW (h₀ := X.base) I.ok.mod.kin hk hall (thn (ha.run pos pins s σ H _ I h) fun us s1 ⟨vs, H1, I1, r, q⟩ => ?_) hpl he
    refine thn (hkw.run pos pins s1 σ H1 _ I1 q) fun ws s2 ⟨zs, H2, I2, rz, l1, l2, q2⟩ => ⟨I2.kIn, ?_⟩
    rw [hks]
    exact run_fnKS F hr hb (hx σ) I2 r rz l1 l2 q2
end
theorem PKi {X : Cx} {e : List Keyword} {t t' : TA} (h : PK X e t) (i : ∀ σ H Q, t' σ H Q → t σ H Q) : PK X e t' := ⟨fun pos pins s σ H Q I q => h.run pos pins s σ H Q I (i σ H Q q)⟩
theorem lk_nil : PK X [] (LL T R fun ρ C K _ => K [] ρ C) := PKi pk_nil fun σ H Q ⟨G, ρ, C, P, st, v, q⟩ => q [] ρ C [] G H v st Fr.refl rfl
theorem lk_cons {vr : WL} {nm : Option Str} {kpos : Pos} {kws : List Keyword} (ha : PE X e (LE T R va)) (hr : PK X kws (LL T R vr)) :
    PK X (⟨nm, e, kpos⟩ :: kws) (LL T R fun ρ C K xd => va ρ C (fun x ρ1 C1 => vr ρ1 C1 (fun ds ρ2 C2 => K (x :: ds) ρ2 C2) xd) xd) :=
  PKi (pk_cons ha hr) fun σ H Q ⟨G, ρ, C, P, st, v, q⟩ => ⟨G, ρ, C, _, st, v, fun x ρ1 C1 u G1 H1 h1 s1 f1 r1 => ⟨G1, ρ1, C1, _, s1, h1, fun ds ρ2 C2 us G2 H2 h2 s2 f2 r2 =>
    q (x :: ds) ρ2 C2 (u :: us) G2 H2 h2 s2 (f1.trans f2) (.cons (r1.up f2.up) r2)⟩⟩
abbrev wCallK (sp : Spec) (n m : Nat) (pm : List Nat) (vl vk : WL) : Ro → Cs → KE → XD → Prop := fun ρ C K xd => vl ρ C (fun ds ρ1 C1 => vk ρ1 C1 (fun us ρ2 C2 => (ds.length = n ∧ us.length = m) ∧ sp (pickD pm (ds ++ us)) C2 (fun r C3 => K r ρ2 C3) fun e C3 => xd e ρ2 C3) xd) xd
theorem callk_imp {pm : List Nat} {m : Nat} {vk : WL} {nn : Nat} {σ : L2.St} {H : Hp} {Q : VK} (ok : RgOk T R) (hl : ∀ ds C P PX, sp ds C P PX → ds.length = nn) (h : LE T R (wCallK sp n m pm vl vk) σ H Q) : tCallKS (spL T sp nn) n m pm (WE R.W) (LL T R vl) (LL T R vk) σ H Q := by
  obtain ⟨G, ρ, C, P, st, v, q⟩ := h
  exact ⟨G, ρ, C, _, st, v, fun xs ρ1 C1 us G1 H1 h1 s1 f1 r1 => ⟨G1, ρ1, C1, _, s1, h1, fun ys ρ2 C2 ws G2 H2 h2 s2 f2 r2 => ⟨by rw [r1.len]; exact h2.1.1, by rw [r2.len]; exact h2.1.2,
    sp_go s2 ok hl (pick_reps ((Reps.up f2.up _ _ r1).app r2) pm) h2.2 fun d C' u G' H' k s3 f3 rep => q d ρ2 C' u G' H' k s3 ((f1.trans f2).trans f3) rep⟩⟩⟩
/-! ### instances -/
theorem ins_top {H : Hp} {G : Hp} {d : D} {u : V} {K : Prop} (h : Top T G H d u) (hi : insD d c K) : K ∧ ∃ (a : Addr) (dx : Addr) (fs : List (Str × V)) (ds : List D), u = .ref a ∧ H a = some (.ins (T.cl c) dx fs) ∧ fs.map (·.1) = (T.fl c).take ds.length := by
  cases d with
  | ins c' ds =>
    obtain ⟨rfl, k⟩ : c' = c ∧ K := hi
    obtain ⟨a, dx, fs, e1, e2, e3, _⟩ := h
    exact ⟨k, a, dx, fs, ds, e1, e2, e3⟩
  | _ => exact (show False from hi).elim
theorem look_none : ∀ {fs : List (Str × V)} {l : List Str} {n : Nat} {m : Str}, fs.map (·.1) = l.take n → m ∉ l → fs.lookup m = none := by
  intro fs l n m h hm
  rw [List.lookup_eq_none_iff]
  intro p hp
  rw [bne_iff_ne]
  intro e
  exact hm (List.mem_of_mem_take (i := n) (by rw [← h, e]; exact List.mem_map_of_mem hp))
theorem look_some : ∀ {fs : List (Str × V)} {l : List Str} {i : Nat} {m : Str}, l.Nodup → fs.map (·.1) = l.take fs.length → l[i]? = some m → i < fs.length → fs.lookup m = (fs.map (·.2))[i]?
  | [], _, _, _, _, _, _, hi => absurd hi (Nat.not_lt_zero _)
  | (f, v) :: fs, [], _, _, _, _, e, _ => by simp at e
  | (f, v) :: fs, g :: l, i, m, nd, h, e, hi => by
    rw [List.map_cons, List.length_cons, List.take_succ_cons] at h
    injection h with h1 h2
    dsimp only at h1
    subst h1
    obtain ⟨n1, n2⟩ := List.nodup_cons.mp nd
    cases i with
    | zero =>
      simp at e
      subst e
      simp
    | succ i =>
      have e' : l[i]? = some m := by simpa using e
      have hne : (m == f) = false := beq_eq_false_iff_ne.mpr fun z => n1 (by rw [← z]; exact List.mem_of_getElem? e')
      rw [List.lookup_cons, hne, List.map_cons, List.getElem?_cons_succ]
      exact look_some n2 h2 e' (by simpa using hi)
theorem putF_old : ∀ {fs : List (Str × V)} {l : List Str} {i : Nat} {m : Str} {v : V}, l.Nodup → fs.map (·.1) = l.take fs.length → l[i]? = some m → i < fs.length → (putF m v fs).map (·.1) = fs.map (·.1) ∧ (putF m v fs).map (·.2) = (fs.map (·.2)).set i v
  | [], _, _, _, _, _, _, _, hi => absurd hi (Nat.not_lt_zero _)
  | (f, u) :: fs, [], _, _, _, _, _, e, _ => by simp at e
  | (f, u) :: fs, g :: l, i, m, v, nd, h, e, hi => by
    rw [List.map_cons, List.length_cons, List.take_succ_cons] at h
    injection h with h1 h2
    dsimp only at h1
    subst h1
    obtain ⟨n1, n2⟩ := List.nodup_cons.mp nd
    cases i with
    | zero =>
      simp at e
      subst e
      simp [putF]
    | succ i =>
      have e' : l[i]? = some m := by simpa using e
      have hne : ¬ f = m := fun z => n1 (by rw [z]; exact List.mem_of_getElem? e')
      obtain ⟨i1, i2⟩ := putF_old (v := v) n2 h2 e' (by simpa using hi)
      unfold putF
      rw [if_neg hne, List.map_cons, List.map_cons, List.map_cons, List.map_cons, i1, i2]
      exact ⟨rfl, rfl⟩
theorem putF_new : ∀ {fs : List (Str × V)} {m : Str} {v : V}, m ∉ fs.map (·.1) → putF m v fs = fs ++ [(m, v)]
  | [], _, _, _ => rfl
  | (f, u) :: fs, m, v, h => by
    rw [List.map_cons, List.mem_cons, not_or] at h
    unfold putF
    rw [if_neg (fun z : f = m => h.1 z.symm), putF_new h.2]
    rfl
theorem not_take {l : List Str} {n : Nat} {m : Str} (nd : l.Nodup) (e : l[n]? = some m) : m ∉ l.take n := fun h => by
  obtain ⟨j, hj⟩ := List.mem_iff_getElem?.mp h
  have hjn : j < n := by
    have := (List.getElem?_eq_some_iff.mp hj).1
    rw [List.length_take] at this
    omega
  rw [List.getElem?_take_of_lt hjn] at hj
  obtain ⟨a2, b2⟩ := List.getElem?_eq_some_iff.mp e
  obtain ⟨a1, b1⟩ := List.getElem?_eq_some_iff.mp hj
  have := List.pairwise_iff_getElem.mp nd j n a1 a2 hjn
  exact this (b1.trans b2.symm)
theorem le_fld {i : Nat} (hK : X.K = T.K) (ha : PE X o (LE T R va)) (hc : Cls T.K (T.cl c)) (hn : NoAttr T.K (T.cl c) m) (nd : (T.fl c).Nodup) (hi : (T.fl c)[i]? = some m) (hb : attributeBase o m X.env (eval o X.env) = eval o X.env) :
    PE X (.Attribute o m pos) (LE T R fun ρ C K xd => va ρ C (fun x ρ1 C1 => fldD (view C1 x) c i fun z => K z ρ1 C1) xd) := by
  refine PEi (pe_fld ha hb) fun σ H Q ⟨G, ρ, C, P, st, v, q⟩ => ⟨G, ρ, C, _, st, v, fun x ρ1 C1 u G1 H1 h1 s1 f1 r1 => ?_⟩
  have tx := top_view s1.rel r1
  generalize view C1 x = x' at h1 tx
  cases x' with
  | ins c' ds =>
    obtain ⟨rfl, h2⟩ := h1
    obtain ⟨a, dx, fs, rfl, ea, e1, hr⟩ := tx
    cases e2 : ds[i]? with
    | none => rw [e2] at h2; exact h2.elim
    | some d =>
      rw [e2] at h2
      obtain ⟨w, ew, hw⟩ := hr.get e2
      have hl : fs.length = ds.length := by rw [← hr.len, List.length_map]
      have hi' : i < fs.length := by rw [hl]; exact (List.getElem?_eq_some_iff.mp e2).1
      refine ⟨a, _, dx, fs, w, rfl, ea, hK ▸ hc, hK ▸ hn, ?_, q d ρ1 C1 w G1 H1 h2 s1 f1 hw⟩
      rw [look_some nd (by rw [hl]; exact e1) hi hi']
      exact ew
  | _ => exact (show False from h1).elim
abbrev wMeth (c : Nat) (sp : Spec) (va : Ro → Cs → KE → XD → Prop) (vl : WL) : Ro → Cs → KE → XD → Prop := fun ρ C K xd => va ρ C (fun x ρ1 C1 => insD (view C1 x) c (vl ρ1 C1 (fun ds ρ2 C2 => sp (x :: ds) C2 (fun r C3 => K r ρ2 C3) fun e C3 => xd e ρ2 C3) xd)) xd
theorem le_meth {pl : Sem Bool} (hK : X.K = T.K) (ho : PE X o (LE T R va)) (hc : Cls T.K (T.cl c)) (hm : Meth T.K (T.cl c) m f) (hn : m ∉ T.fl c) (F : FnOk X.prog X.w X.K X.mg X.base (L2.CX X.prog X.w) k f fd ps (spL T sp n)) (hl : ∀ ds C P PX, sp ds C P PX → ds.length = n)
    (hr : Room k X.A) (db : Dfs T fd ps 0 [] []) (tk : Takes X R.W) (ok : RgOk T R) (ha : PA X (e :: es) (LL T R vl)) (he : starEach (e :: es) X.env = (false, eval e X.env) :: starEach es X.env) (hpl : (backTo pos (starEach es X.env)).any (·.1) = false)
    (ht : eval (.Call (.Attribute o m apos) (e :: es) [] pos) X.env = (do
      let ov ← eval o X.env
      standAt apos.atName
      let (f, first) ← holding [ov] (getMethod ov m pl)
      callWith pos f first (backTo pos (starEach (e :: es) X.env)) (backToKw pos (keywordEach [] X.env)))) :
    PE X (.Call (.Attribute o m apos) (e :: es) [] pos) (LE T R (wMeth c sp va vl)) := by
  refine PEi (pe_methSD ho (hK ▸ hc) (hK ▸ hm) F hr (hK ▸ db.b) db.v (passAt tk) ha he hpl ht) fun σ H Q ⟨G, ρ, C, P, st, v, q⟩ => ⟨G, ρ, C, _, st, v, fun x ρ1 C1 u G1 H1 h1 s1 f1 r1 => ?_⟩
  obtain ⟨h2, a, dx, fs, ds, e1, e2, e3⟩ := ins_top (top_view s1.rel r1) h1
  refine ⟨a, dx, fs, e1, e2, look_none e3 hn, G1, ρ1, C1, _, s1, h2, fun xs ρ2 C2 us G2 H2 h3 s2 f2 r2 => ?_⟩
  show spL T sp n (u :: (us ++ [])) H2 Q (WE R.W σ)
  rw [List.append_nil]
  exact sp_go s2 ok hl (Reps.cons (r1.up f2.up) r2) h3 fun d C' u G' H' k s3 f3 rep => q d ρ2 C' u G' H' k s3 ((f1.trans f2).trans f3) rep
theorem le_meth0 {pl : Sem Bool} (hK : X.K = T.K) (ho : PE X o (LE T R va)) (hc : Cls T.K (T.cl c)) (hm : Meth T.K (T.cl c) m f) (hn : m ∉ T.fl c) (F : FnOk X.prog X.w X.K X.mg X.base (L2.CX X.prog X.w) k f fd ps (spL T sp n)) (hl : ∀ ds C P PX, sp ds C P PX → ds.length = n)
    (hr : Room k X.A) (db : Dfs T fd ps 0 [] []) (tk : Takes X R.W) (ok : RgOk T R)
    (ht : eval (.Call (.Attribute o m apos) [] [] pos) X.env = (do
      let ov ← eval o X.env
      standAt apos.atName
      let (f, first) ← holding [ov] (getMethod ov m pl)
      callWith pos f first (backTo pos (starEach [] X.env)) (backToKw pos (keywordEach [] X.env)))) :
    PE X (.Call (.Attribute o m apos) [] [] pos) (LE T R (wMeth c sp va fun ρ C K _ => K [] ρ C)) := by
  refine PEi (pe_methSD0 ho (hK ▸ hc) (hK ▸ hm) F hr (hK ▸ db.b) db.v (passAt tk) ht) fun σ H Q ⟨G, ρ, C, P, st, v, q⟩ => ⟨G, ρ, C, _, st, v, fun x ρ1 C1 u G1 H1 h1 s1 f1 r1 => ?_⟩
  obtain ⟨h2, a, dx, fs, ds, e1, e2, e3⟩ := ins_top (top_view s1.rel r1) h1
  refine ⟨a, dx, fs, e1, e2, look_none e3 hn, ?_⟩
  show spL T sp n [u] H1 Q (WE R.W σ)
  exact sp_go s1 ok hl (Reps.cons r1 Reps.nil) h2 fun d C' u G' H' k s3 f3 rep => q d ρ1 C' u G' H' k s3 (f1.trans f3) rep
theorem le_prop {pp : Addr} (hK : X.K = T.K) (ho : PE X o (LE T R va)) (hc : Cls T.K (T.cl c)) (hp : PropOf T.K (T.cl c) m pp f) (F : FnOk X.prog X.w X.K X.mg X.base (L2.CX X.prog X.w) k f fd ps (spL T sp n)) (hl : ∀ ds C P PX, sp ds C P PX → ds.length = n)
    (hr : Room (k + 1) X.A) (db : Dfs T fd ps 0 [] []) (hb : attributeBase o m X.env (eval o X.env) = eval o X.env) :
    PE X (.Attribute o m pos) (LE T R fun ρ C K xd => va ρ C (fun x ρ1 C1 => insD (view C1 x) c (sp [x] C1 (fun r C2 => K r ρ1 C2) fun _ _ => False)) xd) := by
  refine PEi (pe_prop (E := fun _ _ _ => False) ho (hK ▸ hc) (hK ▸ hp) F hr (hK ▸ db.b) db.v (fun pins σ H s e s' I q => passAt (X := X.nox) (W := fun _ _ _ _ => False) takes0 σ pins H s e s' I q) hb)
    fun σ H Q ⟨G, ρ, C, P, st, v, q⟩ => ⟨G, ρ, C, _, st, v, fun x ρ1 C1 u G1 H1 h1 s1 f1 r1 => ?_⟩
  obtain ⟨h2, a, dx, fs, ds, e1, e2, e3⟩ := ins_top (top_view s1.rel r1) h1
  refine ⟨a, dx, fs, e1, e2, G1, C1, [x], _, _, s1.rel, Reps.cons (e1 ▸ r1) Reps.nil, hl _ _ _ _ h2, h2, fun d C' u' G' H' k r f rep => q d ρ1 C' u' G' H' k (s1.step r f) (f1.trans f) rep, fun _ _ _ _ _ _ z _ _ _ => z⟩

/-! ### isinstance -/
structure IsC (T : Tb) (c : Nat) : Prop where
  cl : Cls T.K (T.cl c)
  ha : PySem.W.findIn T.K (.ref (T.cl c)) "__class__" = some (some (.builtin "object.__class__"))
  hn : PySem.W.specialIn T.K (.builtin "object.__class__") "__get__" = some (some (.builtin "getset_descriptor.__get__"))
  htk : PySem.W.takesIn T.K (.builtin "object.__class__") = some true
  hm : PySem.W.mroIn T.K (T.cl c) (.type "object") = some true
  no : ∀ s ∈ (["NoneType", "bool", "int", "str", "list", "tuple", "dict"] : List String), PySem.W.kitOne T.K (.type s) (.ref (T.cl c)) = some false
theorem ins_ty {G H : Hp} {C : Cs} (ic : IsC T c) (rel : Rel T G H C) {d : D} {u : V} {K : D → Prop} (hx : Rep T G d u) (h : isClD (view C d) c K) : ∃ t b, TyX T.K H u t ∧ PySem.W.kitOne T.K t (.ref (T.cl c)) = some b ∧ K (.bl b) := by
  have tx := top_view rel hx
  generalize view C d = x' at h tx
  cases x' with
  | non => obtain rfl := tx; exact ⟨_, _, .base .non, ic.no _ (by decide), h⟩
  | bl y => obtain rfl := tx; exact ⟨_, _, .base (.bl y), ic.no _ (by decide), h⟩
  | int y => obtain rfl := tx; exact ⟨_, _, .base (.int y), ic.no _ (by decide), h⟩
  | str y => obtain rfl := tx; exact ⟨_, _, .base (.str y), ic.no _ (by decide), h⟩
  | lst y => obtain ⟨a, vs, rfl, ha, _⟩ := tx; exact ⟨_, _, .base (.lst ha), ic.no _ (by decide), h⟩
  | tup y =>
    obtain ⟨a, vs, rfl, ha, _⟩ := tx
    rcases ha with (ha | ⟨o, ha⟩) | ⟨o, its, n, h1, h2, _⟩
    · exact ⟨_, _, .base (.tup ha), ic.no _ (by decide), h⟩
    · exact ⟨_, _, .fTuple ha, ic.no _ (by decide), h⟩
    · exact ⟨_, _, .kTuple h1 h2, ic.no _ (by decide), h⟩
  | dct y z => obtain ⟨a, vs, rfl, ha, _⟩ := tx; exact ⟨_, _, .base (.dK ha), ic.no _ (by decide), h⟩
  | ins c' ds =>
    obtain ⟨rfl, k⟩ : c' = c ∧ K (.bl true) := h
    obtain ⟨a, dx, fs, rfl, ha, _⟩ := tx
    refine ⟨_, true, .base (.ins ha ic.cl ic.ha ic.hn ic.htk ic.hm), ?_, k⟩
    unfold PySem.W.kitOne
    rw [if_pos (beq_self_eq_true _)]
  | _ => exact (show False from h).elim
theorem le_isC {px : Pos} (hK : X.K = T.K) (ic : IsC T c) (ha : PE X o (LE T R va)) (hg : Gl X "isinstance") (hm : X.mg "isinstance" = none) (gt : Gl X x) (mt : X.mg x = some (.ref (T.cl c))) (hdb : (x == ("__debug__" : Str)) = false)
    (he : starEach [o, .Name x px] X.env = (false, eval o X.env) :: starEach [.Name x px] X.env) : 
    PE X (.Call (.Name "isinstance" p) [o, .Name x px] [] pos) (LE T R fun ρ C K xd => va ρ C (fun x ρ1 C1 => isClD (view C1 x) c fun z => K z ρ1 C1) xd) := by
  refine PEi (pe_callB call_isi hg hm rfl (pa_cons ha (pa_cons (pe_glob (v := .ref (T.cl c)) gt mt rfl hdb) pa_nil) he) (by decide) (by decide) he rfl) fun σ H Q ⟨G, ρ, C, P, st, v, q⟩ => ⟨G, ρ, C, _, st, v, fun x ρ1 C1 u G1 H1 h1 s1 f1 r1 => ?_⟩
  obtain ⟨t, b, h2, h3, h4⟩ := ins_ty ic s1.rel r1 h1
  exact ⟨u, _, t, _, b, rfl, .own _, hK ▸ h2, hK ▸ h3, q _ ρ1 C1 _ G1 H1 h4 s1 f1 rfl⟩
theorem le_isT {px : Pos} {t : String} (hK : X.K = T.K) (ha : PE X o (LE T R va)) (hg : Gl X "isinstance") (hm : X.mg "isinstance" = none) (gt : Gl X x) (mt : X.mg x = none) (bt : bootBuiltins x = some (.type t)) (hn : x ≠ "__name__") (hdb : (x == ("__debug__" : Str)) = false)
    (he : starEach [o, .Name x px] X.env = (false, eval o X.env) :: starEach [.Name x px] X.env) : 
    PE X (.Call (.Name "isinstance" p) [o, .Name x px] [] pos) (LE T R fun ρ C K xd => va ρ C (fun x ρ1 C1 => isTyD (view C1 x) t fun z => K z ρ1 C1) xd) := by
  refine PEi (pe_callB call_isi hg hm rfl (pa_cons ha (pa_cons (pe_bltn (v := .ty t) gt mt bt rfl hn hdb) pa_nil) he) (by decide) (by decide) he rfl) fun σ H Q ⟨G, ρ, C, P, st, v, q⟩ => ⟨G, ρ, C, _, st, v, fun x ρ1 C1 u G1 H1 h1 s1 f1 r1 => ?_⟩
  obtain ⟨s, b, h2, h3, h4⟩ := ty_of hK s1.rel r1 h1
  exact ⟨u, _, _, _, b, rfl, .ty t, h2, kit_ty h3, q _ ρ1 C1 _ G1 H1 h4 s1 f1 rfl⟩

/-! ### methods of built-in types -/
theorem bmTy_of {t : String} {G H : Hp} {x : D} {u : V} {K : Prop} (hK : X.K = T.K) (tx : Top T G H x u) (h : bmTy t x K) : tyV X.K t u H ∧ K := by
  unfold bmTy at h
  split at h
  · obtain rfl := tx
    exact ⟨rfl, h⟩
  · obtain ⟨a, vs, rfl, ha, _⟩ := tx
    exact ⟨.inl ⟨rfl, vs, SqL.of ha⟩, h⟩
  · obtain ⟨a, rfl, ha⟩ := tx
    exact ⟨.inl ⟨rfl, _, hK ▸ ha⟩, h⟩
  · obtain ⟨a, kvs, rfl, ha, _⟩ := tx
    exact ⟨.inr (.inr (.inl ⟨rfl, .inl ⟨kvs, ha⟩⟩)), h⟩
  · exact h.elim
theorem le_bm {t n : String} (hK : X.K = T.K) (h : PE X e (tBM X.K t (rBm T t n) (LE T R va) (LL T R vl))) :
    PE X e (LE T R fun ρ C K xd => va ρ C (fun x ρ1 C1 => bmTy t (view C1 x) (vl ρ1 C1 (fun ds ρ2 C2 => bmD t n (view C2 x) (ds.map (view C2)) fun z => K z ρ2 C2) xd)) xd) := by
  refine PEi h fun σ H Q ⟨G, ρ, C, P, st, v, q⟩ => ⟨G, ρ, C, _, st, v, fun x ρ1 C1 u G1 H1 h1 s1 f1 r1 => ?_⟩
  obtain ⟨h2, h3⟩ := bmTy_of hK (top_view s1.rel r1) h1
  refine ⟨h2, G1, ρ1, C1, _, s1, h3, fun xs ρ2 C2 us G2 H2 h4 s2 f2 r2 => ?_⟩
  exact ⟨G2, C2, x, xs, _, s2.rel, r1.up f2.up, r2, h4, fun z w G' H' k rel fr rep => q z ρ2 C2 w G' H' k (s2.step rel fr) ((f1.trans f2).trans fr) rep⟩
theorem lst_of {G H : Hp} {C : Cs} {x : D} {u : V} {K : Addr → List D → Prop} (rel : Rel T G H C) (hx : Rep T G x u) (h : lstC x C K) : ∃ a ds vs, x = .ref a ∧ u = .ref a ∧ C a = some (.lst ds) ∧ H a = some (.lst vs) ∧ Reps T G ds vs ∧ K a ds := by
  cases x with
  | ref a =>
    obtain rfl : u = .ref a := hx
    unfold lstC at h
    dsimp only at h
    cases q : C a with
    | none => rw [q] at h; exact h.elim
    | some co =>
      rw [q] at h
      cases co with
      | lst ds =>
        obtain ⟨_, o, e, vs, rfl, hr⟩ := rel.cel _ _ q
        exact ⟨a, ds, vs, rfl, rfl, q, e, hr, h⟩
      | _ => exact (show False from h).elim
  | _ => exact (show False from h).elim
theorem le_app {vy : Ro → Cs → KE → XD → Prop} (h : PE X e (tBM X.K "list" rAppend (LE T R va) (tCons (LE T R vy) tNil))) :
    PE X e (LE T R fun ρ C K xd => va ρ C (fun x ρ1 C1 => lstC x C1 fun a _ => vy ρ1 C1 (fun d ρ2 C2 => lstC (.ref a) C2 fun _ xs => xs.length < sizeLine ∧ K .non ρ2 (cset C2 a (.lst (xs ++ [d])))) xd) xd) := by
  refine PEi h fun σ H Q ⟨G, ρ, C, P, st, v, q⟩ => ⟨G, ρ, C, _, st, v, fun x ρ1 C1 u G1 H1 h1 s1 f1 r1 => ?_⟩
  obtain ⟨a, ds, vs, rfl, rfl, _, eh, _, h2⟩ := lst_of s1.rel r1 h1
  refine ⟨.inl ⟨rfl, vs, SqL.of eh⟩, G1, ρ1, C1, _, s1, h2, fun d ρ2 C2 w G2 H2 h3 s2 f2 r2 => ?_⟩
  obtain ⟨a', xs, us, e1, e2, ec, eh2, hr, h4, h5⟩ := lst_of s2.rel (show Rep T G2 (.ref a) (.ref a) from rfl) h3
  cases e1
  obtain ⟨r3, f3⟩ := s2.rel.put (co := .lst (xs ++ [d])) (o := .lst (us ++ [w])) ec ⟨_, rfl, hr.app (Reps.cons r2 Reps.nil)⟩
  exact ⟨a, us, w, rfl, rfl, eh2, by rw [hr.len]; exact h4, q _ ρ2 _ _ G2 _ h5 (s2.step r3 f3) ((f1.trans f2).trans f3) rfl⟩
end
end Mp

set_option Elab.async false
set_option linter.all false
set_option maxRecDepth 100000
set_option maxHeartbeats 1000000
/-! Mp, part F2: an own class's ==, !=, str, repr, bool; making with keywords; str of a text. -/
namespace Mp
open PySem PySem.Spec L2

/-- what a class's own special methods rest on -/
structure SpC (T : Tb) (c : Nat) : Prop where
  ne : PySem.W.findIn T.K (.ref (T.cl c)) "__ne__" = some (some (.builtin "object.__ne__"))
  bo : PySem.W.findIn T.K (.ref (T.cl c)) "__bool__" = some none
  le : PySem.W.findIn T.K (.ref (T.cl c)) "__len__" = some none
  no : ∀ s ∈ (["NoneType", "bool", "int", "str", "list", "tuple", "dict"] : List String), PySem.W.notFirst T.K (T.cl c) (.type s) = true
section
variable {X : Cx} {T : Tb} {R : Rg} {CX : CXT} {k n : Nat} {f Cc : Addr} {fd : FuncData} {ps : List Str} {sp : Sp} {E : XK} {pins : List (Addr × Obj)} {σ : St} {H : Hp} {s : Shared} {Q : VK} {us : List Value} {vs : List V}
/-- a def called where nothing is raised, the caller's frames above -/
theorem own_run {B : Around} {E' : Value → Shared → Prop} (F : Mp.FnOk X.prog X.w X.K X.mg X.base CX n f fd ps sp) (hr : Mp.Room n B) (e0 : Env0 X.prog X.w X.K X.mg X.base B X.stack s H) (hb : Binds X.K fd ps []) (hx : Passes CX X.nox E) (I : Inv X pins σ H s) (r : Vals vs us) (h : sp vs H Q E) :
    wpAny (model X.prog X.w) B (call (.ref f) us) (EP X pins σ Q) E' s := by
  have en : (us ++ ([] : List Value)).length = ps.length := by rw [List.append_nil]; exact r.length.symm.trans (F.len _ _ _ _ h)
  have hbd := hb s us I.kIn en
  rw [List.append_nil] at hbd
  refine wpAny_call (codeAny_mono (F.run B X.stack s H ⟨us, []⟩ _ _ Q E hr e0 hbd r h) fun o z ho => ?_)
  have := ends_of (E' := fun _ _ => False) I (fun e k => hx pins σ H _ e z (I.wish _) k) ho
  rcases o with e | fl
  · exact False.elim this
  · cases fl with
    | ret u => exact this
    | _ => exact False.elim this
/-- == (or !=) of an own instance -/
def rOwn (K : PySem.W.Frag) (Cc : Addr) (sp : Sp) (E : XK) (eq : Bool) : R2 := fun x y H Q => ∃ a dx fs t, x = .ref a ∧ H a = some (.ins Cc dx fs) ∧ TyX K H y t ∧ PySem.W.notFirst K Cc t = true ∧ sp [x, y] H (fun v H' => ∃ b, v = .bl b ∧ Q (.bl (b == eq)) H') E
def eqOp (eq : Bool) : CmpOp := match eq with
  | true => .Eq
  | false => .NotEq
theorem op_own {eq : Bool} (hm : Meth X.K Cc "__eq__" f) (hne : PySem.W.findIn X.K (.ref Cc) "__ne__" = some (some (.builtin "object.__ne__"))) (ho : PySem.W.mroIn X.K Cc (.type "object") = some true)
    (F : Mp.FnOk X.prog X.w X.K X.mg X.base CX k f fd ps sp) (hr : Mp.Room (k + 1) X.A) (hb : Binds X.K fd ps []) (hx : Passes CX X.nox E) : OpR X (compareOp (eqOp eq)) (rOwn X.K Cc sp E eq) := by
  intro pins s σ H x y v u Q I rx ry ⟨a, dx, fs, t, ex, ea, ty, nf, h⟩
  subst ex
  obtain rfl : v = Value.ref a := rx
  obtain ⟨_, O, _⟩ := ins_get I.hok ea
  obtain ⟨_, O2, _⟩ := O.look
  obtain ⟨P, Z, hP, _⟩ := kit_of I ry ty
  have hbt := Z.ty (model X.prog X.w) s.heap I.kIn hP
  cases eq with
  | true =>
    show wpAny _ _ (richCompare .Eq (.ref a) u) _ _ _
    refine eq_own (by have := hr.units; omega) I.kIn O2 hbt nf hm.at_ hm.fn ?_
    refine wpAny_mono (own_run (E' := X.xe) F (hr.mono (Nat.le_succ _)) I.env0 hb hx I (us := [.ref a, u]) (vs := [.ref a, y]) (.cons rfl (.cons ry .nil)) h) ?_ fun _ _ e => e
    rintro u' z ⟨v', H', J, rv, b, rfl, q⟩
    obtain rfl : u' = Value.bool b := rv
    exact ⟨b, rfl, .bl b, H', J, rfl, by simpa using q⟩
  | false =>
    show wpAny _ _ (richCompare .NotEq (.ref a) u) _ _ _
    refine ne_own (by have := hr.units; omega) I.kIn O2 hbt nf hne ho hm.at_ hm.fn ?_
    refine wpAny_mono (own_run (E' := X.xe) F hr.in1 I.env0.in1 hb hx I (us := [.ref a, u]) (vs := [.ref a, y]) (.cons rfl (.cons ry .nil)) h) ?_ fun _ _ e => e
    rintro u' z ⟨v', H', J, rv, b, rfl, q⟩
    obtain rfl : u' = Value.bool b := rv
    exact ⟨b, rfl, .bl (!b), H', J, rfl, by cases b <;> exact q⟩
/-- str or repr of an own instance -/
def rOwnS (Cc : Addr) (sp : Sp) (E : XK) : List V → Hp → VK → Prop := fun xs H Q => ∃ a dx fs, xs = [.ref a] ∧ H a = some (.ins Cc dx fs) ∧ sp [.ref a] H (fun v H' => ∃ t, v = .str t ∧ Q v H') E
theorem call_ownStr (hm : Meth X.K Cc "__str__" f) (F : Mp.FnOk X.prog X.w X.K X.mg X.base CX k f fd ps sp) (hr : Mp.Room (k + 2) X.A) (hb : Binds X.K fd ps []) (hx : Passes CX X.nox E) : CallR X (.type "str") (rOwnS Cc sp E) := by
  intro pins s σ H xs us Q I r ⟨a, dx, fs, ex, ea, h⟩
  subst ex
  obtain rfl := Vals.ref1 r
  obtain ⟨_, O, _⟩ := ins_get I.hok ea
  obtain ⟨_, O2, _⟩ := O.look
  have r2 := hr.in1.in1
  refine PySem.W.kso_call r2.units0 I.kIn O2 hm.at_ hm.fn ?_
  refine wpAny_mono (own_run (E' := X.xe) F r2 I.env0.in1.in1 hb hx I (us := [.ref a]) r h) ?_ fun _ _ e => e
  rintro u' z ⟨v', H', J, rv, t, rfl, q⟩
  obtain ⟨tk, rfl⟩ : ∃ tk, u' = Value.str t tk := rv
  exact ⟨.str t, H', J, ⟨tk, rfl⟩, q⟩
theorem call_ownRepr (hm : Meth X.K Cc "__repr__" f) (F : Mp.FnOk X.prog X.w X.K X.mg X.base CX k f fd ps sp) (hr : Mp.Room (k + 2) X.A) (hb : Binds X.K fd ps []) (hx : Passes CX X.nox E) : CallR X (.builtin "repr") (rOwnS Cc sp E) := by
  intro pins s σ H xs us Q I r ⟨a, dx, fs, ex, ea, h⟩
  subst ex
  obtain rfl := Vals.ref1 r
  obtain ⟨_, O, _⟩ := ins_get I.hok ea
  obtain ⟨_, O2, _⟩ := O.look
  have r2 := hr.in1
  refine repr_own r2.units0 I.kIn O2 hm.at_ hm.fn ?_
  refine wpAny_mono (own_run (E' := X.xe) F (r2.mono (Nat.le_succ _)) I.env0.in1 hb hx I (us := [.ref a]) r h) ?_ fun _ _ e => e
  rintro u' z ⟨v', H', J, rv, t, rfl, q⟩
  obtain ⟨tk, rfl⟩ : ∃ tk, u' = Value.str t tk := rv
  exact ⟨.str t, H', J, ⟨tk, rfl⟩, q⟩
def rOwnB (Cc : Addr) : List V → Hp → VK → Prop := fun xs H Q => ∃ a dx fs, xs = [.ref a] ∧ H a = some (.ins Cc dx fs) ∧ Q (.bl true) H
theorem call_ownBool (hb : PySem.W.findIn X.K (.ref Cc) "__bool__" = some none) (hl : PySem.W.findIn X.K (.ref Cc) "__len__" = some none) : CallR X (.type "bool") (rOwnB Cc) := by
  intro pins s σ H xs us Q I r ⟨a, dx, fs, ex, ea, h⟩
  subst ex
  obtain rfl := Vals.ref1 r
  obtain ⟨_, O, _⟩ := ins_get I.hok ea
  obtain ⟨_, O2, _⟩ := O.look
  exact bool_own I.kIn O2 hb hl ⟨.bl true, H, I, rfl, h⟩
end

/-! ### lifted -/
theorem oty_of {T : Tb} {c : Nat} {G H : Hp} {C : Cs} (ic : IsC T c) (sc : SpC T c) (rel : Rel T G H C) {d : D} {u : V} {K : Prop} (hx : Rep T G d u) (h : otyD c (view C d) K) : ∃ t, TyX T.K H u t ∧ PySem.W.notFirst T.K (T.cl c) t = true ∧ K := by
  have tx := top_view rel hx
  generalize view C d = x' at h tx
  cases x' with
  | non => obtain rfl := tx; exact ⟨_, .base .non, sc.no _ (by decide), h⟩
  | bl y => obtain rfl := tx; exact ⟨_, .base (.bl y), sc.no _ (by decide), h⟩
  | int y => obtain rfl := tx; exact ⟨_, .base (.int y), sc.no _ (by decide), h⟩
  | str y => obtain rfl := tx; exact ⟨_, .base (.str y), sc.no _ (by decide), h⟩
  | lst y => obtain ⟨a, vs, rfl, ha, _⟩ := tx; exact ⟨_, .base (.lst ha), sc.no _ (by decide), h⟩
  | tup y =>
    obtain ⟨a, vs, rfl, ha, _⟩ := tx
    rcases ha with (ha | ⟨o, ha⟩) | ⟨o, its, n, h1, h2, _⟩
    · exact ⟨_, .base (.tup ha), sc.no _ (by decide), h⟩
    · exact ⟨_, .fTuple ha, sc.no _ (by decide), h⟩
    · exact ⟨_, .kTuple h1 h2, sc.no _ (by decide), h⟩
  | dct y z => obtain ⟨a, vs, rfl, ha, _⟩ := tx; exact ⟨_, .base (.dK ha), sc.no _ (by decide), h⟩
  | ins c' ds =>
    obtain ⟨rfl, k⟩ := h
    obtain ⟨a, dx, fs, rfl, ha, _⟩ := tx
    refine ⟨_, .base (.ins ha ic.cl ic.ha ic.hn ic.htk ic.hm), ?_, k⟩
    unfold PySem.W.notFirst
    rw [beq_self_eq_true, Bool.true_or]
  | _ => exact (show False from h).elim
section
variable {X : Cx} {T : Tb} {R : Rg} {k n nd : Nat} {f : Addr} {fd : FuncData} {ps : List Str} {sp : Spec} {ds : List Value} {dvs : List V} {x m : Str} {p pos apos : Pos} {e o a b : Expr} {es : List Expr} {vl : WL} {va vb : Ro → Cs → KE → XD → Prop} {c : Nat}
abbrev wOcmp (sp : Spec) (c : Nat) (eq : Bool) (va vb : Ro → Cs → KE → XD → Prop) : Ro → Cs → KE → XD → Prop := fun ρ C K xd => va ρ C (fun x ρ1 C1 => vb ρ1 C1 (fun y ρ2 C2 => insD (view C2 x) c (otyD c (view C2 y) (sp [x, y] C2 (fun r C3 => ∃ b, r = .bl b ∧ K (.bl (b == eq)) ρ2 C3) fun _ _ => False))) xd) xd
theorem ocmp_imp {eq : Bool} {σ : L2.St} {G H : Hp} {ρ : Ro} {C : Cs} {x y : D} {u w : V} {K' : KE} {Q : VK} (ic : IsC T c) (sc : SpC T c) (hl : ∀ ds C P PX, sp ds C P PX → ds.length = n) (st : Stt T R G H σ ρ C) (rx : Rep T G x u) (ry : Rep T G y w)
    (h : insD (view C x) c (otyD c (view C y) (sp [x, y] C (fun r C3 => ∃ b, r = .bl b ∧ K' (.bl (b == eq)) ρ C3) fun _ _ => False)))
    (q : ∀ z C' w G' H', K' z ρ C' → Stt T R G' H' σ ρ C' → Fr G H C G' H' C' → Rep T G' z w → Q w H') : rOwn T.K (T.cl c) (spL T sp n) (fun _ _ _ => False) eq u w H Q := by
  obtain ⟨h2, a, dx, fs, ds, e1, e2, e3⟩ := ins_top (top_view st.rel rx) h
  obtain ⟨t, ty, nf, h3⟩ := oty_of ic sc st.rel ry h2
  refine ⟨a, dx, fs, t, e1, e2, ty, nf, G, C, [x, y], _, _, st.rel, Reps.cons rx (Reps.cons ry Reps.nil), hl _ _ _ _ h3, h3, fun d C' u' G' H' ⟨b, ed, k⟩ r f rep => ?_, fun _ _ _ _ _ _ z _ _ _ => z⟩
  subst ed
  obtain rfl : u' = .bl b := rep
  exact ⟨b, rfl, q _ C' _ G' H' k (st.step r f) f rfl⟩
theorem le_ocmp {eq : Bool} (hK : X.K = T.K) (ic : IsC T c) (sc : SpC T c) (hm : Meth T.K (T.cl c) "__eq__" f) (F : Mp.FnOk X.prog X.w X.K X.mg X.base (L2.CX X.prog X.w) k f fd ps (spL T sp n)) (hl : ∀ ds C P PX, sp ds C P PX → ds.length = n)
    (hr : Mp.Room (k + 1) X.A) (db : Dfs T fd ps 0 [] []) (ha : PE X a (LE T R va)) (hb : PE X b (LE T R vb)) (hmk : behindInMarks (eqOp eq) b = false) :
    PE X (.Compare a [eqOp eq] [b] pos) (LE T R (wOcmp sp c eq va vb)) ∧ PT X (.Compare a [eqOp eq] [b] pos) (LT T R (boolX (wOcmp sp c eq va vb)).tst) := by
  have op := op_own (eq := eq) (E := fun _ _ _ => False) (hK ▸ hm) (hK ▸ sc.ne) (hK ▸ ic.hm) F hr (hK ▸ db.b) (fun pins σ H s e s' I q => passAt (X := X.nox) (W := fun _ _ _ _ => False) takes0 σ pins H s e s' I q)
  refine ⟨PEi (pe_cmpR op ha hb hmk) fun σ H Q ⟨G, ρ, C, P, st, v, q⟩ => ⟨G, ρ, C, _, st, v, fun x ρ1 C1 u G1 H1 h1 s1 f1 r1 => ⟨G1, ρ1, C1, _, s1, h1, fun y ρ2 C2 w G2 H2 h2 s2 f2 r2 => ?_⟩⟩,
    lt_bool (PTi (pt_cmpR op ha hb hmk) fun σ H Q ⟨G, ρ, C, P, st, v, q⟩ => ⟨G, ρ, C, _, st, v, fun x ρ1 C1 u G1 H1 h1 s1 f1 r1 => ⟨G1, ρ1, C1, _, s1, h1, fun y ρ2 C2 w G2 H2 h2 s2 f2 r2 => ?_⟩⟩)⟩
  · rw [hK]
    exact ocmp_imp ic sc hl s2 (r1.up f2.up) r2 h2 fun z C' w G' H' k s3 f3 rep => q z ρ2 C' w G' H' k s3 ((f1.trans f2).trans f3) rep
  · rw [hK]
    exact ocmp_imp ic sc hl s2 (r1.up f2.up) r2 h2 fun z C' w G' H' k s3 f3 rep => q z ρ2 C' w G' H' k s3 ((f1.trans f2).trans f3) rep
abbrev wOstr (sp : Spec) (c : Nat) (va : Ro → Cs → KE → XD → Prop) : Ro → Cs → KE → XD → Prop := fun ρ C K xd => va ρ C (fun x ρ1 C1 => insD (view C1 x) c (sp [x] C1 (fun r C2 => ∃ t, r = .str t ∧ K r ρ1 C2) fun _ _ => False)) xd
theorem ostr_imp {σ : L2.St} {H : Hp} {Q : VK} (hl : ∀ ds C P PX, sp ds C P PX → ds.length = n) (h : LE T R (wOstr sp c va) σ H Q) : LE T R va σ H fun u H1 => rOwnS (T.cl c) (spL T sp n) (fun _ _ _ => False) [u] H1 Q := by
  obtain ⟨G, ρ, C, P, st, v, q⟩ := h
  refine ⟨G, ρ, C, _, st, v, fun x ρ1 C1 u G1 H1 h1 s1 f1 r1 => ?_⟩
  obtain ⟨h2, a, dx, fs, ds, e1, e2, e3⟩ := ins_top (top_view s1.rel r1) h1
  subst e1
  refine ⟨a, dx, fs, rfl, e2, G1, C1, [x], _, _, s1.rel, Reps.cons r1 Reps.nil, hl _ _ _ _ h2, h2, fun d C' u' G' H' ⟨t, ed, k⟩ r f rep => ?_, fun _ _ _ _ _ _ z _ _ _ => z⟩
  subst ed
  obtain rfl : u' = .str t := rep
  exact ⟨t, rfl, q _ ρ1 C' _ G' H' k (s1.step r f) (f1.trans f) rfl⟩
theorem le_ostr (hK : X.K = T.K) (hm : Meth T.K (T.cl c) "__str__" f) (F : Mp.FnOk X.prog X.w X.K X.mg X.base (L2.CX X.prog X.w) k f fd ps (spL T sp n)) (hl : ∀ ds C P PX, sp ds C P PX → ds.length = n)
    (hr : Mp.Room (k + 2) X.A) (db : Dfs T fd ps 0 [] []) (ha : PE X o (LE T R va)) (hg : Gl X "str") (hmg : X.mg "str" = none) (he : starEach [o] X.env = (false, eval o X.env) :: starEach [] X.env) :
    PE X (.Call (.Name "str" p) [o] [] pos) (LE T R (wOstr sp c va)) :=
  PEi (pe_callTy (call_ownStr (E := fun _ _ _ => False) (hK ▸ hm) F hr (hK ▸ db.b) (fun pins σ H s e s' I q => passAt (X := X.nox) (W := fun _ _ _ _ => False) takes0 σ pins H s e s' I q)) hg hmg rfl (pa_cons ha pa_nil he) (by decide) (by decide) he rfl) fun σ H Q h => ostr_imp hl h
theorem le_orepr (hK : X.K = T.K) (hm : Meth T.K (T.cl c) "__repr__" f) (F : Mp.FnOk X.prog X.w X.K X.mg X.base (L2.CX X.prog X.w) k f fd ps (spL T sp n)) (hl : ∀ ds C P PX, sp ds C P PX → ds.length = n)
    (hr : Mp.Room (k + 2) X.A) (db : Dfs T fd ps 0 [] []) (ha : PE X o (LE T R va)) (hg : Gl X "repr") (hmg : X.mg "repr" = none) (he : starEach [o] X.env = (false, eval o X.env) :: starEach [] X.env) :
    PE X (.Call (.Name "repr" p) [o] [] pos) (LE T R (wOstr sp c va)) :=
  PEi (pe_callB (call_ownRepr (E := fun _ _ _ => False) (hK ▸ hm) F hr (hK ▸ db.b) (fun pins σ H s e s' I q => passAt (X := X.nox) (W := fun _ _ _ _ => False) takes0 σ pins H s e s' I q)) hg hmg rfl (pa_cons ha pa_nil he) (by decide) (by decide) he rfl) fun σ H Q h => ostr_imp hl h
theorem le_obool (hK : X.K = T.K) (sc : SpC T c) (ha : PE X o (LE T R va)) (hg : Gl X "bool") (hmg : X.mg "bool" = none) (he : starEach [o] X.env = (false, eval o X.env) :: starEach [] X.env) :
    PE X (.Call (.Name "bool" p) [o] [] pos) (LE T R fun ρ C K xd => va ρ C (fun x ρ1 C1 => insD (view C1 x) c (K (.bl true) ρ1 C1)) xd) := by
  refine PEi (pe_callTy (call_ownBool (Cc := T.cl c) (hK ▸ sc.bo) (hK ▸ sc.le)) hg hmg rfl (pa_cons ha pa_nil he) (by decide) (by decide) he rfl) fun σ H Q ⟨G, ρ, C, P, st, v, q⟩ => ⟨G, ρ, C, _, st, v, fun x ρ1 C1 u G1 H1 h1 s1 f1 r1 => ?_⟩
  obtain ⟨h2, a, dx, fs, ds, e1, e2, e3⟩ := ins_top (top_view s1.rel r1) h1
  subst e1
  exact ⟨a, dx, fs, rfl, e2, q _ ρ1 C1 _ G1 H1 h2 s1 f1 rfl⟩
theorem le_sstr (ha : PE X o (LE T R va)) (hg : Gl X "str") (hmg : X.mg "str" = none) (he : starEach [o] X.env = (false, eval o X.env) :: starEach [] X.env) :
    PE X (.Call (.Name "str" p) [o] [] pos) (LE T R fun ρ C K xd => va ρ C (fun x ρ1 C1 => strD x fun y => K (.str y) ρ1 C1) xd) := by
  refine PEi (pe_callTy SkE.call_str_str hg hmg rfl (pa_cons ha pa_nil he) (by decide) (by decide) he rfl) fun σ H Q ⟨G, ρ, C, P, st, v, q⟩ => ⟨G, ρ, C, _, st, v, fun x ρ1 C1 u G1 H1 h1 s1 f1 r1 => ?_⟩
  cases x with
  | str y =>
    obtain rfl : u = .str y := r1
    exact ⟨y, rfl, q _ ρ1 C1 _ G1 H1 h1 s1 f1 rfl⟩
  | _ => exact (show False from h1).elim
end

/-! ### making with keywords -/
theorem pickV_cons (u : Value) (l : List Value) (pm : List Nat) : pickV (0 :: pm.map (· + 1)) (u :: l) = u :: pickV pm l := by
  simp [pickV, List.map_map, Function.comp_def]
theorem pickU_cons (u : V) (l : List V) (pm : List Nat) : pickU (0 :: pm.map (· + 1)) (u :: l) = u :: pickU pm l := by
  simp [pickU, List.map_map, Function.comp_def]
section
variable {X : Cx} {CX : CXT} {k n : Nat} {f Cc : Addr} {fd : FuncData} {ps ks : List Str} {sp : Sp} {pm : List Nat} {E : St → XK} {x : Str} {p pos : Pos} {e : Expr} {es : List Expr} {kws : List Keyword} {t tk : TA}
theorem run_makeKS {pins : List (Addr × Obj)} {σ : St} {H : Hp} {s : Shared} {Q : VK} {us ws : List Value} {vs zs : List V} {E : XK} (M : Mk X.K Cc f) (F : Mp.FnOk X.prog X.w X.K X.mg X.base CX k f fd ps sp) (hr : Mp.Room (k + 1) X.A) (hb : KwB X.K fd ps (n + 1) ks (0 :: pm.map (· + 1)))
    (hx : PassesAt CX X σ E) (I : Inv X pins σ H s) (r : Vals vs us) (rz : Vals zs ws) (l1 : vs.length = n) (l2 : zs.length = ks.length)
    (h : ∀ x dx, H x = none → H dx = none → dx ≠ x → sp (.ref x :: pickU pm (vs ++ zs)) (upd (upd H dx (.own x)) x (.ins Cc dx [])) (fun v H2 => v = .non ∧ Q (.ref x) H2) E) :
    wpAny (model X.prog X.w) X.A (call (.ref Cc) us (ks.zip ws)) (EP X pins σ Q) X.xe s := by
  have hq := h (s.heap.objs.size + 1) s.heap.objs.size (I.hok.fresh (Nat.le_succ _)) (I.hok.fresh (Nat.le_refl _)) (Nat.ne_of_lt (Nat.lt_succ_self _))
  have I2 := Inv.made (C := Cc) I
  have r2 : Vals (V.ref (s.heap.objs.size + 1) :: pickU pm (vs ++ zs)) (Value.ref (s.heap.objs.size + 1) :: pickV pm (us ++ ws)) := .cons rfl (pick_vals (r.append rz) pm)
  have hbd := hb _ (Value.ref (s.heap.objs.size + 1) :: us) ws I2.kIn (by rw [List.length_cons, ← r.length, l1]) (by rw [← rz.length, l2])
  rw [List.cons_append, pickV_cons] at hbd
  refine wpAny_call (make_map (f := f) I.kIn M.makes M.init (beq_iff_eq.mp M.fn) (codeAny_mono (F.run _ X.stack _ _ ⟨Value.ref (s.heap.objs.size + 1) :: us, ks.zip ws⟩ (Value.ref (s.heap.objs.size + 1) :: pickV pm (us ++ ws)) _ _ E (hr.make Cc us (ks.zip ws))
    (I2.env0.make Cc us (ks.zip ws)) hbd r2 hq) fun r s' hq' => ?_))
  cases r with
  | error e => exact hx pins _ _ e s' I2 hq'
  | ok fl =>
    cases fl with
    | ret u =>
      obtain ⟨v, H', I3, rv, ev, q3⟩ := I2.after hq'
      subst ev
      exact ⟨rv, ⟨V.ref (s.heap.objs.size + 1), H', I3, rfl, q3⟩⟩
    | next => exact False.elim hq'
    | brk => exact False.elim hq'
    | cont => exact False.elim hq'
def tMakeKS (Cc : Addr) (sp : Sp) (n m : Nat) (pm : List Nat) (E : St → XK) (t tk : TA) : TE := fun σ H Q => t σ H fun vs H1 => tk σ H1 fun zs H2 => vs.length = n ∧ zs.length = m ∧ ∀ x dx, H2 x = none → H2 dx = none → dx ≠ x →
  sp (.ref x :: pickU pm (vs ++ zs)) (upd (upd H2 dx (.own x)) x (.ins Cc dx [])) (fun v H3 => v = .non ∧ Q (.ref x) H3) (E σ)
theorem pe_makeKS (M : Mk X.K Cc f) (F : Mp.FnOk X.prog X.w X.K X.mg X.base CX k f fd ps sp) (hr : Mp.Room (k + 1) X.A) (hg : Gl X x) (hm : X.mg x = some (.ref Cc)) (hb : KwB X.K fd ps (n + 1) ks (0 :: pm.map (· + 1))) (hx : ∀ σ, PassesAt CX X σ (E σ))
    (ha : PA X es t) (hkw : PK X kws tk) (hall : (backToKw pos (keywordEach kws X.env)).all (·.1.isSome) = true) (hks : (backToKw pos (keywordEach kws X.env)).filterMap (·.1) = ks)
    (hdb : (x == ("__debug__" : Str)) = false) (he : es = [] ∨ ∃ e r, es = e :: r ∧ starEach (e :: r) X.env = (false, eval e X.env) :: starEach r X.env)
    (hpl : ((backTo pos (starEach es X.env)).any (·.1) || (backToKw pos (keywordEach kws X.env)).any (·.1.isNone)) = false) (he0 : es = [] → t = tNil) :
    PE X (.Call (.Name x p) es kws pos) (tMakeKS Cc sp n ks.length pm E t tk) := by
  refine ⟨fun pins s σ H Q I h => ?_⟩
  refine wpAny_Call_Name_kw (ld_glob I hg hm ?_ hdb)
  rcases he with rfl | ⟨e, r, rfl, he⟩
  · obtain rfl := he0 rfl
    refine PySem.W.callWith_KW0 (h₀ := X.base) I.ok.mod.kin M.kp hall (thn (hkw.run pos pins s σ H _ I h) fun ws s2 ⟨zs, H2, I2, rz, l1, l2, q2⟩ => ⟨I2.kIn, ?_⟩) hpl
    rw [hks]
    exact run_makeKS (us := []) (vs := []) M F hr hb (hx σ) I2 .nil rz l1 l2 q2
  · refine PySem.W.callWith_KW (h₀ := X.base) I.ok.mod.kin M.kp hall (thn (ha.run pos pins s σ H _ I h) fun us s1 ⟨vs, H1, I1, r, q⟩ => ?_) hpl he
    refine thn (hkw.run pos pins s1 σ H1 _ I1 q) fun ws s2 ⟨zs, H2, I2, rz, l1, l2, q2⟩ => ⟨I2.kIn, ?_⟩
    rw [hks]
    exact run_makeKS M F hr hb (hx σ) I2 r rz l1 l2 q2
end
section
variable {X : Cx} {T : Tb} {R : Rg} {n c : Nat} {pm : List Nat} {sp : Spec} {vl vk : WL}
abbrev wMakeK (sp : Spec) (n m c : Nat) (pm : List Nat) (mu : Bool) (vl vk : WL) : Ro → Cs → KE → XD → Prop := fun ρ C K xd => vl ρ C (fun ds ρ1 C1 => vk ρ1 C1 (fun us ρ2 C2 => (ds.length = n ∧ us.length = m) ∧ ∀ a, C2 a = none → sp (.ref a :: pickD pm (ds ++ us)) (cset C2 a (.ins c [])) (fun r C3 => r = .non ∧ madeW mu c a ρ2 C3 K) fun e C3 => xd e ρ2 C3) xd) xd
theorem makek_imp {mu : Bool} {m nn : Nat} {σ : L2.St} {H : Hp} {Q : VK} (ok : RgOk T R) (hl : ∀ ds C P PX, sp ds C P PX → ds.length = nn) (h : LE T R (wMakeK sp n m c pm mu vl vk) σ H Q) : tMakeKS (T.cl c) (spL T sp nn) n m pm (WE R.W) (LL T R vl) (LL T R vk) σ H Q := by
  obtain ⟨G, ρ, C, P, st, v, q⟩ := h
  exact ⟨G, ρ, C, _, st, v, fun xs ρ1 C1 us G1 H1 h1 s1 f1 r1 => ⟨G1, ρ1, C1, _, s1, h1, fun ys ρ2 C2 ws G2 H2 h2 s2 f2 r2 => ⟨by rw [r1.len]; exact h2.1.1, by rw [r2.len]; exact h2.1.2,
    fun x dx hx hd ne => make_go s2 ok hl (pick_reps ((Reps.up f2.up _ _ r1).app r2) pm) h2.2 (fun d C' u G' H' k s3 f3 rep => q d ρ2 C' u G' H' k s3 ((f1.trans f2).trans f3) rep) x dx hx hd ne⟩⟩⟩
end
end Mp

set_option Elab.async false
set_option linter.all false
set_option maxRecDepth 100000
set_option maxHeartbeats 4000000
/-! Mp, part G0: enumerate over a tuple. -/
namespace Mp
open PySem PySem.Spec L2
open AutoSeq1 (wpAny_loadPart')

theorem meets_enumerate_newT (l : Addr) (items : Array Value) (n : Nat) (dct : Option Addr) (sl : Array (Option Value)) :
    Meets (Builtin.«enumerate.__new__» ⟨[.type "enumerate", .ref l], []⟩) (fun _ R s => s.heap.get? l = some { cls := .type "tuple", dict := dct, data := .seq items n, slots := sl } ∧
      R (.ok (.ret (.ref (s.heap.push { cls := .type "tuple_iterator", data := .fields #[.ref l, .int 0 0] }).objs.size)))
        { s with heap := (s.heap.push { cls := .type "tuple_iterator", data := .fields #[.ref l, .int 0 0] }).push { cls := .type "enumerate", data := .fields #[.none, .bool false, .ref s.heap.objs.size, rawInt 0, .none, .none] } }) :=
  .of_wp fun prog w A R s h => by
    obtain ⟨hp, g, d, tk, os⟩ := s; obtain ⟨hl, h⟩ := h
    have hsub := sub_enumerate
    have hL : Heap.IsTuple (Shared.heap ⟨hp, g, d, tk, os⟩) l items := ⟨_, hl, rfl, n, rfl⟩
    wp_walk using wpAny_loadPart' hl
    refine wpAny_stack_any fun st => wpAny_pure ?_
    split
    · rename_i c _ _ _ _ _
      cases (c == Value.type "enumerate")
      · wp_walk using wpAny_loadPart' hl, wpAny_pyIter_tuple hL
        exact ⟨_, rfl, h⟩
      · wp_walk using wpAny_loadPart' hl, wpAny_pyIter_tuple hL
        exact ⟨_, rfl, h⟩
    · wp_walk using wpAny_loadPart' hl, wpAny_pyIter_tuple hL
      exact ⟨_, rfl, h⟩
section
variable {prog : Program} {w : World} {A : Around} {E : Value → Shared → Prop} {s : Shared}
theorem call_enumerate_tuple {l : Addr} {items : Array Value} {Q : Value → Shared → Prop} (hL : s.heap.IsTuple l items)
    (h : ∀ h', IsEnum h' (s.heap.objs.size + 1) s.heap.objs.size 0 .none → h'.IsTupleIter s.heap.objs.size l 0 → h'.objs.size = s.heap.objs.size + 2 →
      (∀ b o, s.heap.get? b = some o → h'.get? b = some o) → Q (.ref (s.heap.objs.size + 1)) { s with heap := h' }) :
    wpAny (model prog w) A (call (.type "enumerate") [.ref l]) Q E s := by
  obtain ⟨⟨c, dct, dt, sl⟩, hl, hc, n, hd⟩ := hL
  replace hc : c = .type "tuple" := hc
  replace hd : dt = .seq items n := hd
  subst hc hd
  refine callType_new F.called_enumerate (by decide) (F.typeCall_enumerate_1 _) (F.newCall_enumerate_1 _) (fun obj => F.args_object_init_2 obj _) F.entry_enumerate_new
    (meets_enumerate_newT l items n dct sl) ⟨hl, ?_⟩
  have hz : (s.heap.push { cls := .type "tuple_iterator", data := .fields #[.ref l, .int 0 0] }).objs.size = s.heap.objs.size + 1 := Heap.size_push ..
  show _ ∧ _
  rw [hz]
  have he : IsEnum ((s.heap.push { cls := .type "tuple_iterator", data := .fields #[.ref l, .int 0 0] }).push
      { cls := .type "enumerate", data := .fields #[.none, .bool false, .ref s.heap.objs.size, rawInt 0, .none, .none] }) (s.heap.objs.size + 1) s.heap.objs.size 0 .none := by
    have := Heap.get?_push_size (s.heap.push { cls := .type "tuple_iterator", data := .fields #[.ref l, .int 0 0] })
      (o := { cls := .type "enumerate", data := .fields #[.none, .bool false, .ref s.heap.objs.size, rawInt 0, .none, .none] }) rfl
    rw [hz] at this; exact this
  refine ⟨⟨_, he, rfl⟩, h _ he ⟨_, Heap.get?_push_of_some _ (Heap.get?_push_size _ rfl), rfl, rfl⟩ (by rw [Heap.size_push, hz]) fun b o x => Heap.get?_push_of_some _ (Heap.get?_push_of_some _ x)⟩
end
/-- the tuple at a, each item in a new pair -/
def IteT (K : PySem.W.Frag) (a : Addr) : It :=
  ⟨fun i H => ∃ (xs : List V) (x : V), SqT K H a xs ∧ xs[i]? = some x, fun i H v H' => ∃ T x, v = .ref T ∧ H T = none ∧ H' = upd H T (.tup [.int (i : Nat), x]) ∧ ∀ xs, SqT K H a xs → xs[i]? = some x, fun i H => ∃ xs : List V, SqT K H a xs ∧ xs.length ≤ i⟩
theorem turn_enumT {P : Program} {w : World} {K : PySem.W.Frag} {elts : List Expr} {kk : Nat} {tpos : Pos} (a e it : Addr) :
    Turn P w K (.Tuple elts kk tpos) (IteT K a) [e, it] e (fun i h => (∃ old, IsEnum h e it ((i : Nat) : Int) old) ∧ h.IsTupleIter it a i ∧ e ≠ it) where
  mem := by simp
  obj := fun i h st b hb => by
    obtain ⟨⟨old, he⟩, ⟨o, ho, hc, hd⟩, _⟩ := st
    have e' : b = e ∨ b = it := by simpa using hb
    rcases e' with z | z
    · rw [z]; exact ⟨_, he, fun v q => nomatch q⟩
    · rw [z]; exact ⟨o, ho, fun v q => by rw [hd] at q; cases q⟩
  keep := fun i h h' st k => let ⟨⟨old, he⟩, hi, hne⟩ := st; ⟨⟨old, k e (by simp) _ he⟩, hi.at fun o q => k it (by simp) o q, hne⟩
  item := by
    intro X hP hw hK hc i pins s σ H E I hf st hg
    subst hP hw hK
    obtain ⟨⟨old, he⟩, hit, hne⟩ := st
    obtain ⟨xs, x, hq, hx⟩ := hg
    obtain ⟨its, rv, p, hz⟩ := I.tuple hq
    have hp : s.heap.IsTuple a its.toArray := p
    obtain ⟨u, hu, ru⟩ := rv.get hx
    have hel : e < s.heap.objs.size := Heap.lt_size he
    have hil : it < s.heap.objs.size := by obtain ⟨_, q, _⟩ := hit; exact Heap.lt_size q
    have hai : a ≠ it := fun z => by
      obtain ⟨o1, h1, c1, _⟩ := hp
      obtain ⟨o2, h2, c2, _⟩ := hit
      rw [z, h2] at h1
      cases h1
      rw [c1] at c2
      exact absurd (Value.type.inj c2) (by decide)
    have hae : a ≠ e := fun z => by
      obtain ⟨o1, h1, c1, _⟩ := hp
      rw [z, show s.heap.get? e = _ from he] at h1
      cases h1
      exact absurd (Value.type.inj c1) (by decide)
    refine wpAny_pyNext_enum_itemD (PySem.Draws.tuple (A := X.A.in1) (I.ok.hd hc) it a hai its.toArray) he ⟨hit, hp⟩ (by
      have := (List.getElem?_eq_some_iff.mp hu).1
      simpa using this) hne (by simp only [List.mem_cons, List.not_mem_nil, or_false, not_or]; exact ⟨hne, Ne.symm hae⟩) fun y h' tk hy ho hst' hT hsz hk => ?_
    have ey : y = u := by
      have : its[i]? = some y := by simpa using hy
      rw [hu] at this
      cases this
      rfl
    subst ey
    refine ⟨_, rfl, wpAny_letOwnedTupleGo_enum (s := { s with heap := h', toks := tk + 1 }) ho fun h'' he' sb => ?_⟩
    have hT2 : h''.get? s.heap.objs.size = some { cls := .type "tuple", data := .seq #[.int i tk, y] } := (sb.2 _ (Nat.ne_of_gt hel)).trans hT
    have new : ObjOk X.prog X.w (upd H s.heap.objs.size (.tup [.int (i : Nat), x])) h'' s.heap.objs.size (.tup [.int (i : Nat), x]) :=
      ⟨by show 2 ≤ sizeLine; decide, [.int i tk, y], .cons ⟨_, rfl⟩ (.cons ru .nil), ⟨_, hT2, rfl, _, rfl⟩⟩
    have I1 : Inv X pins σ (upd H s.heap.objs.size (.tup [.int (i : Nat), x])) { s with heap := h'', toks := tk + 1 } :=
      I.turnedNew (ch := [e, it]) (fun b ob hb q => (sb.2 b (fun z => hb (by simp [z]))).trans (hk b ob (fun z => hb (by simp [z])) (fun z => hb (by simp [z])) q)) hf (Nat.le_refl _) new
    refine ⟨.ref s.heap.objs.size, _, I1, rfl, ⟨_, x, rfl, I.hok.fresh (Nat.le_refl _), rfl, fun ys hy => by rw [I.tuple_inj hy hq]; exact hx⟩, ⟨⟨y, ?_⟩, hst'.1.at fun o q => (sb.2 it (Ne.symm hne)).trans q, hne⟩, fun b hb => ?_⟩
    · have e1 : ((i + 1 : Nat) : Int) = (i : Int) + 1 := by omega
      rw [e1]; exact he'
    · have hb' : b < s.heap.objs.size := by
        have e' : b = e ∨ b = it := by simpa using hb
        rcases e' with z | z
        · rw [z]; exact hel
        · rw [z]; exact hil
      rw [upd_ne (Nat.ne_of_lt hb')]
      exact (hf b hb).1
  done := by
    intro X hP hw hK hc i pins s σ H E I hf st hg
    subst hP hw hK
    obtain ⟨⟨old, he⟩, hit, hne⟩ := st
    obtain ⟨xs, hq, hx⟩ := hg
    obtain ⟨its, rv, p, hz⟩ := I.tuple hq
    have hp : s.heap.IsTuple a its.toArray := p
    obtain ⟨f0, f1, f2, f3, f4, f5⟩ := hf it (by simp)
    have hl := rv.length
    have hT : s.TypeIs (.ref e) "enumerate" := ⟨_, he, rfl⟩
    unfold pyNext
    refine wpAny_bind (wpAny_attempt (wpAny_callSpecial?_slot (name := Str.ofString "__next__") hT F.slot_enumerate_next
      (wpAny_call_entry F.slot_enumerate_next hT F.entry_enumerate_next ?_ (F.args_enumerate_next_1 _))))
    show wpAny _ _ (field (.ref e) 2 >>= _) _ _ _
    refine wpAny_bind (wpAny_field he rfl (x := .ref it) rfl ?_)
    refine wpAny_bind (PySem.wpAny_nextOf_tuple_end (I.ok.hd hc) hit hp (by simp; omega) fun h' x he' hx' => ?_)
    obtain ⟨o, ho, hc⟩ := hx'
    refine wpAny_bind (wpAny_isInstance (T := "StopIteration") (b := true) ⟨o, ho, hc⟩ isSubtype_stop ?_)
    exact wpAny_pure ⟨rfl, I.turned (t' := s.toks) (fun b o hb q => he' b o hb q) f0 f1 f3 f4 f5⟩
  self := fun A i s Q E st h => let ⟨⟨_, he⟩, _⟩ := st; wpAny_pyIter_enum he h
def iEnumT (K : PySem.W.Frag) (ta : TA) : TI := fun σ H R => ta σ H fun vs H1 => ∃ a xs, vs = [.ref a] ∧ ((SqL K H1 a xs ∧ R (Ite K a) H1) ∨ (SqT K H1 a xs ∧ R (IteT K a) H1))
theorem pi_enumT {X : Cx} {e : Expr} {ta : TA} {p pos tpos : Pos} {elts : List Expr} {kk : Nat} (hg : Gl X "enumerate") (hm : X.mg "enumerate" = none) (ha : PA X [e] ta) (hs : starEach [e] X.env = [(false, eval e X.env)]) :
    PI X (.Tuple elts kk tpos) (.Call (.Name "enumerate" p) [e] [] pos) (iEnumT X.K ta) := by
  refine ⟨fun pins s σ H R I h => ?_⟩
  refine PyProof.Rows.Call_ (ld_blt I hg hm PyProof.Rows.boot_enumerate (PyProof.Rows.callWith_type1 (thn (ha.run pos pins s σ H _ I h) fun us s1 ⟨vs, H1, I1, r1, q1⟩ => ?_) hs rfl))
  obtain ⟨a, xs, ex, q⟩ := q1
  subst ex
  cases r1 with
  | cons r rr =>
    cases rr
    cases r
    have fin : ∀ (h' : Heap) (b : Addr), (b ∈ [s1.heap.objs.size + 1, s1.heap.objs.size]) → FpOk X pins H1 b := fun h' b hb => by
      have e' : b = s1.heap.objs.size + 1 ∨ b = s1.heap.objs.size := by simpa using hb
      have hle : s1.heap.objs.size ≤ b := by
        rcases e' with z | z
        · rw [z]; exact Nat.le_add_right _ _
        · rw [z]; exact Nat.le_refl _
      exact I1.fpOk hle (I1.hok.fresh hle)
    rcases q with ⟨hq, q⟩ | ⟨hq, q⟩
    · obtain ⟨its, rv, p', hz⟩ := I1.list hq
      refine call_enumerate_list p'.isList fun h' he hit hsz hk => wpAny_pyIter_enum he ?_
      have I2 : Inv X pins σ H1 { s1 with heap := h' } := I1.kept (t' := s1.toks) hk
      exact ⟨s1.heap.objs.size + 1, [s1.heap.objs.size + 1, s1.heap.objs.size], _, _, H1, rfl, I2, turn_enum a (s1.heap.objs.size + 1) s1.heap.objs.size, ⟨⟨.none, he⟩, hit, Nat.succ_ne_self _⟩, fin h', q⟩
    · obtain ⟨its, rv, p', hz⟩ := I1.tuple hq
      refine call_enumerate_tuple (show s1.heap.IsTuple a its.toArray from p') fun h' he hit hsz hk => wpAny_pyIter_enum he ?_
      have I2 : Inv X pins σ H1 { s1 with heap := h' } := I1.kept (t' := s1.toks) hk
      exact ⟨s1.heap.objs.size + 1, [s1.heap.objs.size + 1, s1.heap.objs.size], _, _, H1, rfl, I2, turn_enumT a (s1.heap.objs.size + 1) s1.heap.objs.size, ⟨⟨.none, he⟩, hit, Nat.succ_ne_self _⟩, fin h', q⟩
end Mp

set_option Elab.async false
set_option linter.all false
set_option maxRecDepth 100000
set_option maxHeartbeats 400000
/-! Mp, part G1: ranges of any bounds. -/
namespace Mp
open PySem PySem.Spec L2
theorem turn_long {P : Program} {w : World} {K : PySem.W.Frag} {tg : Expr} (ad : Addr) (from_ by_ : Int) (many : Nat) :
    Turn P w K tg (Itc from_ by_ many) [ad] ad (fun k hp => IsLongIter hp ad (from_ + (k : Nat) * by_) ((many : Int) - (k : Nat)) by_) where
  mem := List.mem_singleton.mpr rfl
  obj := fun k hp z b hb => by
    obtain rfl : b = ad := List.mem_singleton.mp hb
    exact ⟨_, z, fun _ e => nomatch e⟩
  keep := fun k hp hp' z up => up ad (List.mem_singleton.mpr rfl) _ z
  item := by
    intro X e1 e2 e3 calm k pins s σ H E I hf z hk
    subst e1 e2 e3
    obtain ⟨w0, w1, w2, w3, w4, w5⟩ := hf ad (List.mem_singleton.mpr rfl)
    refine (Walks.longrange (prog := X.prog) (w := X.w) (I.ok.hd calm) ad from_ by_ many).item k s _ _ hk z fun u hp' tk hu z' old => ?_
    obtain ⟨tok, rfl⟩ := hu
    have I' : Inv X pins σ H { s with heap := hp', toks := tk } := I.turned (fun b o hb e => old b o (fun q => hb (List.mem_singleton.mp q)) e) w0 w1 w3 w4 w5
    exact ⟨_, rfl, go_of (s := { s with heap := hp', toks := tk }) (n := "longrange_iterator") z' rfl rfl (by decide)
      ⟨.int (from_ + (k : Nat) * by_), H, I', ⟨tok, rfl⟩, ⟨rfl, rfl⟩, z', fun b hb => (hf b hb).1⟩⟩
  done := by
    intro X e1 e2 e3 calm k pins s σ H E I hf z hk
    subst e1 e2 e3
    obtain ⟨w0, w1, w2, w3, w4, w5⟩ := hf ad (List.mem_singleton.mpr rfl)
    have hk : many ≤ k := hk
    exact wpAny_pyNext_long_end (I.ok.hd calm) z (by omega) fun hp' old => ⟨rfl, I.turned (t' := s.toks) (fun b o hb e => old b o hb e) w0 w1 w3 w4 w5⟩
  self := fun _ _ _ _ _ z q => wpAny_pyIter_longiter z q
/-- a range, small or not, is walked -/
theorem rng_go {X : Cx} {tg : Expr} {pins : List (Addr × Obj)} {σ : L2.St} {H : Hp} {s : Shared} {R : It → Hp → Prop} {E : Value → Shared → Prop} {i j c : Int} {t u v : Tok} {tk : Nat} {n : Nat} (I : Inv X pins σ H s) (hn : Builtin.Range.rangeSize i j c = n) (q : R (Itc i c n) H) :
    wpAny (model X.prog X.w) X.A (pyIter (.ref s.heap.objs.size)) (PIE X pins σ tg R) E { s with heap := s.heap.push { cls := .type "range", data := .fields #[.int i t, .int j u, .int c v] }, toks := tk } := by
  have I' : Inv X pins σ H { s with heap := s.heap.push { cls := .type "range", data := .fields #[.int i t, .int j u, .int c v] }, toks := tk } := I.kept fun b o e => Heap.get?_push_of_some _ e
  have z0 : i + ((0 : Nat) : Int) * c = i := by simp
  have z1 : (n : Int) - ((0 : Nat) : Int) = Builtin.Range.rangeSize i j c := by rw [hn]; simp
  cases sm : Builtin.Range.small i j c with
  | true =>
    refine wpAny_pyIter_range (IsRange.new ..) sm (pi_one (tk := tk) I' _ (turn_rangeC _ i c n) ?_ q)
    show IsRangeIter _ _ (i + ((0 : Nat) : Int) * c) ((n : Int) - ((0 : Nat) : Int)) c
    rw [z0, z1]
    exact Heap.get?_push_size _ rfl
  | false =>
    refine wpAny_pyIter_longrange (IsRange.new ..) sm (pi_one (tk := tk) I' _ (turn_long _ i c n) ?_ q)
    show IsLongIter _ _ (i + ((0 : Nat) : Int) * c) ((n : Int) - ((0 : Nat) : Int)) c
    rw [z0, z1]
    exact Heap.get?_push_size _ rfl
theorem size_one (i j : Int) : Builtin.Range.rangeSize i j 1 = ((j - i).toNat : Nat) := by
  rw [PySem.rangeSize_one]
  split <;> omega
theorem vs1 {i : Int} {us : List Value} (r : Vals [.int i] us) : ∃ t, us = [.int i t] := by
  cases r with
  | cons a r =>
    cases r
    obtain ⟨t, rfl⟩ := a
    exact ⟨t, rfl⟩
theorem vs2 {i j : Int} {us : List Value} (r : Vals [.int i, .int j] us) : ∃ t u, us = [.int i t, .int j u] := by
  cases r with
  | cons a r =>
    obtain ⟨u, rfl⟩ := vs1 r
    obtain ⟨t, rfl⟩ := a
    exact ⟨t, u, rfl⟩
theorem vs3 {i j k : Int} {us : List Value} (r : Vals [.int i, .int j, .int k] us) : ∃ t u v, us = [.int i t, .int j u, .int k v] := by
  cases r with
  | cons a r =>
    obtain ⟨u, v, rfl⟩ := vs2 r
    obtain ⟨t, rfl⟩ := a
    exact ⟨t, u, v, rfl⟩
section
variable {X : Cx} {tg : Expr}
def iB1 (ta : TA) : TI := fun σ H R => ta σ H fun vs H1 => ∃ j : Int, vs = [.int j] ∧ R (Itc 0 1 j.toNat) H1
def iB2 (ta : TA) : TI := fun σ H R => ta σ H fun vs H1 => ∃ i j : Int, vs = [.int i, .int j] ∧ R (Itc i 1 (j - i).toNat) H1
def iB3 (ta : TA) : TI := fun σ H R => ta σ H fun vs H1 => ∃ (i j c : Int) (n : Nat), vs = [.int i, .int j, .int c] ∧ RgB i j c n ∧ R (Itc i c n) H1
theorem pi_B1 {a : Expr} {ta : TA} {p pos : Pos} (hg : Gl X "range") (hm : X.mg "range" = none) (ha : PA X [a] ta) (st : starEach [a] X.env = [(false, eval a X.env)]) :
    PI X tg (.Call (.Name "range" p) [a] [] pos) (iB1 ta) := by
  constructor
  intro pins s σ H R I h
  refine PyProof.Rows.Call_ (ld_blt I hg hm PyProof.Rows.boot_range (PyProof.Rows.callWith_type1 (thn (ha.run pos pins s σ H _ I h) fun us s' ⟨vs, H', I', rv, z⟩ => ?_) st rfl))
  obtain ⟨j, rfl, z⟩ := z
  obtain ⟨t, rfl⟩ := vs1 rv
  refine call_range_1 (rng_go I' ?_ z)
  rw [size_one, Int.sub_zero]
theorem pi_B2 {a b : Expr} {ta : TA} {p pos : Pos} (hg : Gl X "range") (hm : X.mg "range" = none) (ha : PA X [a, b] ta) (st : starEach [a, b] X.env = [(false, eval a X.env), (false, eval b X.env)]) (st2 : starEach [b] X.env = [(false, eval b X.env)]) :
    PI X tg (.Call (.Name "range" p) [a, b] [] pos) (iB2 ta) := by
  constructor
  intro pins s σ H R I h
  refine PyProof.Rows.Call_ (ld_blt I hg hm PyProof.Rows.boot_range (PyProof.Rows.callWith_type1 (thn (ha.run pos pins s σ H _ I h) fun us s' ⟨vs, H', I', rv, z⟩ => ?_) (by rw [st, st2]) (by rw [st2]; rfl)))
  obtain ⟨i, j, rfl, z⟩ := z
  obtain ⟨t, t', rfl⟩ := vs2 rv
  exact call_range_2 (rng_go I' (size_one i j) z)
theorem pi_B3 {a b c : Expr} {ta : TA} {p pos : Pos} (hg : Gl X "range") (hm : X.mg "range" = none) (ha : PA X [a, b, c] ta)
    (st : starEach [a, b, c] X.env = (false, eval a X.env) :: starEach [b, c] X.env) (st2 : (backTo pos (starEach [b, c] X.env)).any (·.1) = false) :
    PI X tg (.Call (.Name "range" p) [a, b, c] [] pos) (iB3 ta) := by
  constructor
  intro pins s σ H R I h
  refine PyProof.Rows.Call_ (ld_blt I hg hm PyProof.Rows.boot_range (PyProof.Rows.callWith_type1 (thn (ha.run pos pins s σ H _ I h) fun us s' ⟨vs, H', I', rv, z⟩ => ?_) st st2))
  obtain ⟨i, j, k, n, rfl, ⟨c0, c1, c2⟩, z⟩ := z
  obtain ⟨t, t', t2, rfl⟩ := vs3 rv
  exact call_range_3 c0 (rng_go (tk := s'.toks) I' c2 z) (.inl (PyProof.noPylong_small c1))
end
end Mp

set_option Elab.async false
set_option linter.all false
set_option maxRecDepth 100000
set_option maxHeartbeats 4000000
/-! Mp, part G: targets, what is walked, comprehensions, statements. -/
namespace Mp
open PySem PySem.Spec L2

/-! ### targets -/
def mtIx : MT → List Nat
  | .nm i => [i]
  | .tp is => is
theorem wipe_set {σ : L2.St} {i : Nat} {x : Option V} : ∀ {vs : List Nat}, i ∈ vs → wipe (σ.set i x) vs = wipe σ vs
  | [], h => by cases h
  | v :: vs, h => by
    show (wipe (σ.set i x) vs).set v none = (wipe σ vs).set v none
    by_cases hi : i ∈ vs
    · rw [wipe_set hi]
    · have e : i = v := by
        rcases List.mem_cons.mp h with e | e
        · exact e
        · exact absurd e hi
      subst e
      have out : ∀ {ws : List Nat}, i ∉ ws → wipe (σ.set i x) ws = (wipe σ ws).set i x := by
        intro ws
        induction ws with
        | nil => intro _; rfl
        | cons w ws ih =>
          intro hw
          rw [List.mem_cons, not_or] at hw
          show (wipe (σ.set i x) ws).set w none = ((wipe σ ws).set w none).set i x
          rw [ih hw.2, List.set_comm _ _ (Ne.symm hw.1)]
      rw [out hi, List.set_set]
def LG (T : Tb) (R : Rg) (tg : MT) : TG := fun u σ H Q => ∃ G ρ C d K, Stt T R G H σ ρ C ∧ Rep T G d u ∧ wTg tg d ρ K ∧
  ∀ ρ' σ', K ρ' → Stt T R G H σ' ρ' C → (∀ vs, (∀ i ∈ mtIx tg, i ∈ vs) → wipe σ' vs = wipe σ vs) → Q σ' H
theorem PGi {X : Cx} {e : Expr} {t t' : TG} (h : PG X e t) (i : ∀ u σ H Q, t' u σ H Q → t u σ H Q) : PG X e t' := ⟨fun pins s σ H v u Q I r q => h.run pins s σ H v u Q I r (i v σ H Q q)⟩
def gIs : List Nat → TGs
  | [] => gNil
  | i :: is => gCons (gName i) (gIs is)
section
variable {X : Cx} {T : Tb} {R : Rg} {G H : Hp} {σ : L2.St} {ρ : Ro} {C : Cs}
theorem gIs_go : ∀ {is : List Nat} {ds : List D} {us : List V} {σ : L2.St} {ρ : Ro} {Q : L2.St → Hp → Prop}, Stt T R G H σ ρ C → Reps T G ds us → ds.length = is.length →
    (∀ σ', Stt T R G H σ' (setAll is ds ρ) C → (∀ vs, (∀ i ∈ is, i ∈ vs) → wipe σ' vs = wipe σ vs) → Q σ' H) → gIs is us σ H Q
  | [], ds, us, σ, ρ, Q, st, hr, hl, q => by
    obtain rfl : ds = [] := List.eq_nil_of_length_eq_zero hl
    exact ⟨hr, q σ st fun _ _ => rfl⟩
  | i :: is, [], us, σ, ρ, Q, st, hr, hl, q => by cases hl
  | i :: is, d :: ds, us, σ, ρ, Q, st, hr, hl, q => by
    obtain ⟨u, vs, rfl, h2, h3⟩ := hr
    refine ⟨u, vs, rfl, gIs_go (st.set i h2) h3 (by simpa using hl) fun σ' s' w => q σ' s' fun ws hw => ?_⟩
    rw [w ws fun j hj => hw j (List.mem_cons_of_mem _ hj)]
    exact wipe_set (hw i (List.mem_cons_self ..))
theorem lg_nm {e : Expr} {i : Nat} (h : PG X e (gName i)) : PG X e (LG T R (.nm i)) :=
  PGi h fun u σ H Q ⟨G, ρ, C, d, K, st, r, w, q⟩ => q _ _ w (st.set i r) fun vs hv => wipe_set (hv i (List.mem_cons_self ..))
theorem lg_tp {es : List Expr} {kk : Nat} {is : List Nat} {pos : Pos} (hK : X.K = T.K) (hc : X.calm = true) (h : PGs X es (gIs is)) (hn : (assignEach es X.env).length = is.length) (hst : (assignEach es X.env).findIdx? (·.1) = none) : PG X (.Tuple es kk pos) (LG T R (.tp is)) := by
  refine ⟨fun pins s σ H v u Q I r ⟨G, ρ, C, d, K, st, rep, w, q⟩ => ?_⟩
  cases d with
  | tup ds =>
    obtain ⟨hl, k⟩ : ds.length = is.length ∧ K (setAll is ds ρ) := w
    obtain ⟨a, vs, rfl, ha, hr⟩ := rep
    exact (pg_tup hc h hn hst).run pins s σ H _ u Q I r ⟨a, vs, rfl, hK ▸ sqt_up st.rel.sub ha, by rw [hr.len]; exact hl, gIs_go st hr hl fun σ' s' w => q _ σ' k s' w⟩
  | lst ds =>
    obtain ⟨hl, k⟩ : ds.length = is.length ∧ K (setAll is ds ρ) := w
    obtain ⟨a, vs, rfl, ha, hr⟩ := rep
    exact (pg_lst hc h hn hst).run pins s σ H _ u Q I r ⟨a, vs, rfl, SqL.of (st.rel.sub _ _ ha), by rw [hr.len]; exact hl, gIs_go st hr hl fun σ' s' w => q _ σ' k s' w⟩
  | _ => exact (show False from w).elim
end

/-! ### what is walked -/
def ItD (T : Tb) (J : It) (G : Hp) (ds : List D) : Prop := ∀ G1 H1 C1, Same G G1 → Rel T G1 H1 C1 → ∀ i, (ds.length ≤ i → J.stop i H1) ∧ ∀ d, ds[i]? = some d → J.go i H1 ∧
  ∀ x H2, J.yld i H1 x H2 → ∃ G2, Rel T G2 H2 C1 ∧ Fr G1 H1 C1 G2 H2 C1 ∧ Rep T G2 d x
def LI (T : Tb) (R : Rg) (v : WL) : TI := fun σ H Q => ∃ G ρ C P, Stt T R G H σ ρ C ∧ v ρ C P R.xd ∧
  ∀ ds ρ' C' J G' H', P ds ρ' C' → Stt T R G' H' σ ρ' C' → Fr G H C G' H' C' → ItD T J G' ds → Q J H'
theorem PIi {X : Cx} {tg e : Expr} {t t' : TI} (h : PI X tg e t) (i : ∀ σ H Q, t' σ H Q → t σ H Q) : PI X tg e t' := ⟨fun pins s σ H Q I q => h.run pins s σ H Q I (i σ H Q q)⟩
section
variable {T : Tb} {G : Hp}
theorem itd_list {a : Addr} {K : PySem.W.Frag} (hK : K = T.K) {ds : List D} {vs : List V} (ha : G a = some (.lst vs)) (hr : Reps T G ds vs) : ItD T (Itl K a) G ds := fun G1 H1 C1 up rel i => by
  have q : SqL K H1 a vs := SqL.of (rel.sub _ _ (up _ _ ha))
  have hr1 := Reps.up up _ _ hr
  refine ⟨fun hi => ⟨vs, q, by rw [hr.len]; exact hi⟩, fun d hd => ?_⟩
  obtain ⟨v, e, h⟩ := hr1.get hd
  refine ⟨⟨vs, v, q, e⟩, fun x H2 ⟨e2, h2⟩ => ?_⟩
  subst e2
  have e3 := h2 vs q
  rw [e] at e3
  cases e3
  exact ⟨G1, rel, Fr.refl, h⟩
theorem itd_scr {a : Addr} {K : PySem.W.Frag} (hK : K = T.K) {ns : List Int} (ha : SqL T.K G a (ns.map V.int)) : ItD T (Itl K a) G (ns.map D.int) := fun G1 H1 C1 up rel i => by
  have q : SqL K H1 a (ns.map V.int) := hK ▸ rel.sub.seq (up.seq ha)
  have hr1 : Reps T G1 (ns.map D.int) (ns.map V.int) := Reps.ofInts ns
  refine ⟨fun hi => ⟨_, q, by simpa using hi⟩, fun d hd => ?_⟩
  obtain ⟨v, e, h⟩ := hr1.get hd
  refine ⟨⟨_, v, q, e⟩, fun x H2 ⟨e2, h2⟩ => ?_⟩
  subst e2
  have e3 := h2 _ q
  rw [e] at e3
  cases e3
  exact ⟨G1, rel, Fr.refl, h⟩
theorem itd_tup {a : Addr} {K : PySem.W.Frag} (hK : K = T.K) {ds : List D} {vs : List V} (ha : SqT T.K G a vs) (hr : Reps T G ds vs) : ItD T (Itt K a) G ds := fun G1 H1 C1 up rel i => by
  have q : SqT K H1 a vs := hK ▸ sqt_up rel.sub (sqt_up up ha)
  have hr1 := Reps.up up _ _ hr
  refine ⟨fun hi => ⟨vs, q, by rw [hr.len]; exact hi⟩, fun d hd => ?_⟩
  obtain ⟨v, e, h⟩ := hr1.get hd
  refine ⟨⟨vs, v, q, e⟩, fun x H2 ⟨e2, h2⟩ => ?_⟩
  subst e2
  have e3 := h2 vs q
  rw [e] at e3
  cases e3
  exact ⟨G1, rel, Fr.refl, h⟩
theorem rngL_len (lo c : Int) : ∀ n, (rngL lo c n).length = n
  | 0 => rfl
  | n + 1 => by
    show (rngL (lo + c) c n).length + 1 = _
    rw [rngL_len _ c n]
theorem rngL_get : ∀ (lo c : Int) (n i : Nat), i < n → (rngL lo c n)[i]? = some (.int (lo + (i : Nat) * c))
  | lo, c, n + 1, 0, _ => by simp [rngL]
  | lo, c, n + 1, i + 1, h => by
    show (rngL (lo + c) c n)[i]? = _
    rw [rngL_get _ c n i (by omega)]
    congr 2
    have : ((i + 1 : Nat) : Int) = (i : Int) + 1 := by omega
    rw [this, Int.add_mul]
    omega
theorem itd_rng (lo : Int) (n : Nat) : ItD T (Itr lo n) G (rngL lo 1 n) := fun G1 H1 C1 up rel i => by
  refine ⟨fun hi => by rw [rngL_len] at hi; exact hi, fun d hd => ?_⟩
  have hi : i < n := by have := (List.getElem?_eq_some_iff.mp hd).1; rwa [rngL_len] at this
  rw [rngL_get _ _ _ _ hi] at hd
  cases hd
  refine ⟨hi, fun x H2 ⟨e2, h2⟩ => ?_⟩
  subst e2 h2
  refine ⟨G1, rel, Fr.refl, ?_⟩
  rw [Int.mul_one]
  exact rfl
theorem itd_rngC (lo c : Int) (n : Nat) : ItD T (Itc lo c n) G (rngL lo c n) := fun G1 H1 C1 up rel i => by
  refine ⟨fun hi => by rw [rngL_len] at hi; exact hi, fun d hd => ?_⟩
  have hi : i < n := by have := (List.getElem?_eq_some_iff.mp hd).1; rwa [rngL_len] at this
  rw [rngL_get _ _ _ _ hi] at hd
  cases hd
  refine ⟨hi, fun x H2 ⟨e2, h2⟩ => ?_⟩
  subst e2 h2
  exact ⟨G1, rel, Fr.refl, rfl⟩
theorem enumL_len : ∀ (k : Nat) (ds : List D), (enumL k ds).length = ds.length
  | _, [] => rfl
  | k, d :: ds => by
    show (enumL (k + 1) ds).length + 1 = _
    rw [enumL_len _ ds]; rfl
theorem enumL_get : ∀ (k : Nat) (ds : List D) (i : Nat), (enumL k ds)[i]? = ds[i]?.map fun d => .tup [.int ((k + i : Nat) : Int), d]
  | _, [], i => by simp [enumL]
  | k, d :: ds, 0 => by simp [enumL]
  | k, d :: ds, i + 1 => by
    show (enumL (k + 1) ds)[i]? = _
    rw [enumL_get _ ds i, List.getElem?_cons_succ]
    have : k + 1 + i = k + (i + 1) := by omega
    rw [this]
theorem itd_enum {a : Addr} {K : PySem.W.Frag} {ds : List D} {vs : List V} (q : ∀ G1 H1 C1, Same G G1 → Rel T G1 H1 C1 → SqL K H1 a vs) (hr : Reps T G ds vs) : ItD T (Ite K a) G (enumL 0 ds) := fun G1 H1 C1 up rel i => by
  have q := q G1 H1 C1 up rel
  have hr1 := Reps.up up _ _ hr
  refine ⟨fun hi => ⟨vs, q, by rw [hr.len]; rwa [enumL_len] at hi⟩, fun d hd => ?_⟩
  rw [enumL_get] at hd
  cases e0 : ds[i]? with
  | none => rw [e0] at hd; cases hd
  | some d0 =>
    rw [e0] at hd
    cases hd
    obtain ⟨v, e, h⟩ := hr1.get e0
    refine ⟨⟨vs, v, q, e⟩, fun x H2 ⟨t, y, e1, ht, e2, h2⟩ => ?_⟩
    subst e1 e2
    have e3 := h2 vs q
    rw [e] at e3
    cases e3
    obtain ⟨r2, f2⟩ := rel.lay (o := .tup [.int (i : Nat), v]) ht
    refine ⟨_, r2, f2, rep_tup ?_ (rel.fresh ht).1⟩
    rw [Nat.zero_add]
    exact .cons rfl (.cons h .nil)
theorem itd_enumT {a : Addr} {K : PySem.W.Frag} {ds : List D} {vs : List V} (q : ∀ G1 H1 C1, Same G G1 → Rel T G1 H1 C1 → SqT K H1 a vs) (hr : Reps T G ds vs) : ItD T (IteT K a) G (enumL 0 ds) := fun G1 H1 C1 up rel i => by
  have q := q G1 H1 C1 up rel
  have hr1 := Reps.up up _ _ hr
  refine ⟨fun hi => ⟨vs, q, by rw [hr.len]; rwa [enumL_len] at hi⟩, fun d hd => ?_⟩
  rw [enumL_get] at hd
  cases e0 : ds[i]? with
  | none => rw [e0] at hd; cases hd
  | some d0 =>
    rw [e0] at hd
    cases hd
    obtain ⟨v, e, h⟩ := hr1.get e0
    refine ⟨⟨vs, v, q, e⟩, fun x H2 ⟨t, y, e1, ht, e2, h2⟩ => ?_⟩
    subst e1 e2
    have e3 := h2 vs q
    rw [e] at e3
    cases e3
    obtain ⟨r2, f2⟩ := rel.lay (o := .tup [.int (i : Nat), v]) ht
    refine ⟨_, r2, f2, rep_tup ?_ (rel.fresh ht).1⟩
    rw [Nat.zero_add]
    exact .cons rfl (.cons h .nil)
theorem zipL_get : ∀ (xs ys : List D) (i : Nat) (d : D), (zipL xs ys)[i]? = some d → ∃ x y, xs[i]? = some x ∧ ys[i]? = some y ∧ d = .tup [x, y]
  | [], _, i, d, h => by simp [zipL] at h
  | x :: xs, [], i, d, h => by simp [zipL] at h
  | x :: xs, y :: ys, 0, d, h => by
    simp [zipL] at h
    exact ⟨x, y, rfl, rfl, h.symm⟩
  | x :: xs, y :: ys, i + 1, d, h => by
    have h' : (zipL xs ys)[i]? = some d := h
    obtain ⟨a, b, h1, h2, h3⟩ := zipL_get xs ys i d h'
    exact ⟨a, b, by simpa using h1, by simpa using h2, h3⟩
theorem zipL_len : ∀ (xs ys : List D), (zipL xs ys).length = min xs.length ys.length
  | [], _ => by simp [zipL]
  | x :: xs, [] => by simp [zipL]
  | x :: xs, y :: ys => by
    show (zipL xs ys).length + 1 = _
    rw [zipL_len xs ys]
    simp only [List.length_cons]
    omega
theorem itd_zipL {a b : Addr} {K : PySem.W.Frag} {ds es : List D} {vs us : List V} (ha : G a = some (.lst vs)) (hr : Reps T G ds vs) (hb : G b = some (.lst us)) (hs : Reps T G es us) : ItD T (Itz K a b) G (zipL ds es) := fun G1 H1 C1 up rel i => by
  have qa : SqL K H1 a vs := SqL.of (rel.sub _ _ (up _ _ ha))
  have qb : SqL K H1 b us := SqL.of (rel.sub _ _ (up _ _ hb))
  have hr1 := Reps.up up _ _ hr
  have hs1 := Reps.up up _ _ hs
  refine ⟨fun hi => ⟨vs, us, qa, qb, by rw [hr.len, hs.len]; rw [zipL_len] at hi; omega⟩, fun d hd => ?_⟩
  obtain ⟨x0, y0, h1, h2, rfl⟩ := zipL_get _ _ _ _ hd
  obtain ⟨v, e, h⟩ := hr1.get h1
  obtain ⟨u, e', h'⟩ := hs1.get h2
  refine ⟨⟨vs, us, v, u, qa, qb, e, e'⟩, fun x H2 ⟨t, y, z, e1, ht, e2, h3, h4⟩ => ?_⟩
  subst e1 e2
  have e3 := h3 vs qa
  rw [e] at e3
  cases e3
  have e4 := h4 us qb
  rw [e'] at e4
  cases e4
  obtain ⟨r2, f2⟩ := rel.lay (o := .tup [v, u]) ht
  exact ⟨_, r2, f2, rep_tup (.cons h (.cons h' .nil)) (rel.fresh ht).1⟩
theorem itd_zipT {a b : Addr} {K : PySem.W.Frag} (hK : K = T.K) {ds es : List D} {vs us : List V} (ha : SqT T.K G a vs) (hr : Reps T G ds vs) (hb : SqT T.K G b us) (hs : Reps T G es us) : ItD T (RZ.ItzT K a b) G (zipL ds es) := fun G1 H1 C1 up rel i => by
  have qa : SqT K H1 a vs := hK ▸ sqt_up rel.sub (sqt_up up ha)
  have qb : SqT K H1 b us := hK ▸ sqt_up rel.sub (sqt_up up hb)
  have hr1 := Reps.up up _ _ hr
  have hs1 := Reps.up up _ _ hs
  refine ⟨fun hi => ⟨vs, us, qa, qb, by rw [hr.len, hs.len]; rw [zipL_len] at hi; omega⟩, fun d hd => ?_⟩
  obtain ⟨x0, y0, h1, h2, rfl⟩ := zipL_get _ _ _ _ hd
  obtain ⟨v, e, h⟩ := hr1.get h1
  obtain ⟨u, e', h'⟩ := hs1.get h2
  refine ⟨⟨vs, us, v, u, qa, qb, e, e'⟩, fun x H2 ⟨t, y, z, e1, ht, e2, h3, h4⟩ => ?_⟩
  subst e1 e2
  have e3 := h3 vs qa
  rw [e] at e3
  cases e3
  have e4 := h4 us qb
  rw [e'] at e4
  cases e4
  obtain ⟨r2, f2⟩ := rel.lay (o := .tup [v, u]) ht
  exact ⟨_, r2, f2, rep_tup (.cons h (.cons h' .nil)) (rel.fresh ht).1⟩
end
section
variable {X : Cx} {T : Tb} {R : Rg} {tg e e2 : Expr} {a b c : Expr} {es : List Expr} {p pos tpos : Pos} {va vb : Ro → Cs → KE → XD → Prop} {vl : WL}
def iAny (K : PySem.W.Frag) (tl : TE) : TI := fun σ H R => tl σ H fun x H1 => ∃ a, x = .ref a ∧ (((∃ xs, SqL K H1 a xs) ∧ R (Itl K a) H1) ∨ ((∃ xs, SqT K H1 a xs) ∧ R (Itt K a) H1))
theorem pi_any {l : Expr} {tl : TE} (hl : PE X l tl) : PI X tg l (iAny X.K tl) := by
  refine ⟨fun pins s σ H R I h => ?_⟩
  refine thn (hl.run pins s σ H _ I h) fun v s1 ⟨x, H1, I1, r1, q1⟩ => ?_
  obtain ⟨a, e, q⟩ := q1
  subst e
  cases r1
  rcases q with ⟨⟨xs, hq⟩, q⟩ | ⟨⟨xs, hq⟩, q⟩
  · obtain ⟨its, rv, p, hz⟩ := I1.list hq
    refine PySem.wpAny_pyIter_list p.isList ?_
    refine ⟨s1.heap.objs.size, [s1.heap.objs.size], _, _, H1, rfl, I1.kept (t' := s1.toks) fun b o e => Heap.get?_push_of_some _ e, turn_list a _, ⟨_, Heap.get?_push_size _ rfl, rfl, rfl⟩, fun b hb => ?_, q⟩
    have e : b = s1.heap.objs.size := by simpa using hb
    subst e
    exact I1.fpOk (Nat.le_refl _) (I1.hok.fresh (Nat.le_refl _))
  · obtain ⟨its, rv, p, hz⟩ := I1.tuple hq
    refine PySem.wpAny_pyIter_tuple (show s1.heap.IsTuple a its.toArray from p) ?_
    refine ⟨s1.heap.objs.size, [s1.heap.objs.size], _, _, H1, rfl, I1.kept (t' := s1.toks) fun b o e => Heap.get?_push_of_some _ e, turn_tuple a _, ⟨_, Heap.get?_push_size _ rfl, rfl, rfl⟩, fun b hb => ?_, q⟩
    have e : b = s1.heap.objs.size := by simpa using hb
    subst e
    exact I1.fpOk (Nat.le_refl _) (I1.hok.fresh (Nat.le_refl _))
theorem li_it (hK : X.K = T.K) (h : PE X e (LE T R va)) : PI X tg e (LI T R fun ρ C K xd => va ρ C (fun x ρ1 C1 => itsD x fun xs => K xs ρ1 C1) xd) := by
  refine PIi (pi_any h) fun σ H Q ⟨G, ρ, C, P, st, v, q⟩ => ⟨G, ρ, C, _, st, v, fun x ρ1 C1 u G1 H1 h1 s1 f1 r1 => ?_⟩
  cases x with
  | scr ns =>
    obtain ⟨a, rfl, ha⟩ := r1
    exact ⟨a, rfl, .inl ⟨⟨_, hK ▸ s1.rel.sub.seq ha⟩, q _ ρ1 C1 _ G1 H1 h1 s1 f1 (itd_scr hK ha)⟩⟩
  | lst ds =>
    obtain ⟨a, vs, rfl, ha, hr⟩ := r1
    exact ⟨a, rfl, .inl ⟨⟨_, SqL.of (s1.rel.sub _ _ ha)⟩, q _ ρ1 C1 _ G1 H1 h1 s1 f1 (itd_list hK ha hr)⟩⟩
  | tup ds =>
    obtain ⟨a, vs, rfl, ha, hr⟩ := r1
    exact ⟨a, rfl, .inr ⟨⟨_, hK ▸ sqt_up s1.rel.sub ha⟩, q _ ρ1 C1 _ G1 H1 h1 s1 f1 (itd_tup hK ha hr)⟩⟩
  | _ => exact (show False from h1).elim
abbrev wRng (vl : WL) : WL := fun ρ C K xd => vl ρ C (fun ds ρ1 C1 => rngD ds fun xs => K xs ρ1 C1) xd
theorem rng_one {ds : List D} {K : List D → Prop} (h : rngD ds K) (hl : ds.length = 1) : ∃ j, ds = [.int j] ∧ K (rngL 0 1 j.toNat) := by
  match ds, hl with
  | [d], _ =>
    cases d with
    | int j => exact ⟨j, rfl, h⟩
    | _ => exact (show False from h).elim
theorem rng_two {ds : List D} {K : List D → Prop} (h : rngD ds K) (hl : ds.length = 2) : ∃ i j, ds = [.int i, .int j] ∧ K (rngL i 1 (j - i).toNat) := by
  match ds, hl with
  | [d, e], _ =>
    cases d with
    | int i =>
      cases e with
      | int j => exact ⟨i, j, rfl, h⟩
      | _ => exact (show False from h).elim
    | _ => exact (show False from h).elim
theorem rng_three {ds : List D} {K : List D → Prop} (h : rngD ds K) (hl : ds.length = 3) : ∃ i j c n, ds = [.int i, .int j, .int c] ∧ RgB i j c n ∧ K (rngL i c n) := by
  match ds, hl with
  | [d, e, f], _ =>
    cases d with
    | int i =>
      cases e with
      | int j =>
        cases f with
        | int c =>
          obtain ⟨n, h1, h2⟩ := h
          exact ⟨i, j, c, n, rfl, h1, h2⟩
        | _ => exact (show False from h).elim
      | _ => exact (show False from h).elim
    | _ => exact (show False from h).elim
abbrev w1L (va : Ro → Cs → KE → XD → Prop) : WL := fun ρ C K xd => va ρ C (fun x ρ1 C1 => K [x] ρ1 C1) xd
abbrev w2L (va vb : Ro → Cs → KE → XD → Prop) : WL := fun ρ C K xd => va ρ C (fun x ρ1 C1 => vb ρ1 C1 (fun y ρ2 C2 => K [x, y] ρ2 C2) xd) xd
abbrev w3L (va vb vc : Ro → Cs → KE → XD → Prop) : WL := fun ρ C K xd => va ρ C (fun x ρ1 C1 => vb ρ1 C1 (fun y ρ2 C2 => vc ρ2 C2 (fun z ρ3 C3 => K [x, y, z] ρ3 C3) xd) xd) xd
theorem li_rng1 (hg : Gl X "range") (hm : X.mg "range" = none) (ha : PE X a (LE T R va)) (hs : starEach [a] X.env = (false, eval a X.env) :: starEach [] X.env) : PI X tg (.Call (.Name "range" p) [a] [] pos) (LI T R (wRng (w1L va))) := by
  refine PIi (pi_B1 hg hm (pa_cons ha pa_nil hs) (by rw [hs]; rfl)) fun σ H Q ⟨G, ρ, C, P, st, v, q⟩ => ⟨G, ρ, C, _, st, v, fun x ρ1 C1 u G1 H1 h1 s1 f1 r1 => ?_⟩
  obtain ⟨j, e, k⟩ := rng_one h1 rfl
  cases e
  obtain rfl : u = .int j := r1
  exact ⟨j, rfl, q _ ρ1 C1 _ G1 H1 k s1 f1 (itd_rngC 0 1 _)⟩
theorem li_rng2 {vb : Ro → Cs → KE → XD → Prop} (hg : Gl X "range") (hm : X.mg "range" = none) (ha : PE X a (LE T R va)) (hb : PE X b (LE T R vb)) (hs : starEach [a, b] X.env = (false, eval a X.env) :: starEach [b] X.env) (hs2 : starEach [b] X.env = (false, eval b X.env) :: starEach [] X.env) :
    PI X tg (.Call (.Name "range" p) [a, b] [] pos) (LI T R (wRng (w2L va vb))) := by
  refine PIi (pi_B2 hg hm (pa_cons ha (pa_cons hb pa_nil hs2) hs) (by rw [hs, hs2]; rfl) (by rw [hs2]; rfl)) fun σ H Q ⟨G, ρ, C, P, st, v, q⟩ => ⟨G, ρ, C, _, st, v, fun x ρ1 C1 u G1 H1 h1 s1 f1 r1 => ⟨G1, ρ1, C1, _, s1, h1, fun y ρ2 C2 w G2 H2 h2 s2 f2 r2 => ?_⟩⟩
  obtain ⟨i, j, e, k⟩ := rng_two h2 rfl
  cases e
  obtain rfl : u = .int i := r1
  obtain rfl : w = .int j := r2
  exact ⟨i, j, rfl, q _ ρ2 C2 _ G2 H2 k s2 (f1.trans f2) (itd_rngC i 1 _)⟩
theorem li_rng3 {vb vc : Ro → Cs → KE → XD → Prop} (hg : Gl X "range") (hm : X.mg "range" = none) (ha : PE X a (LE T R va)) (hb : PE X b (LE T R vb)) (hc : PE X c (LE T R vc)) (hs : starEach [a, b, c] X.env = (false, eval a X.env) :: starEach [b, c] X.env) (hs2 : starEach [b, c] X.env = (false, eval b X.env) :: starEach [c] X.env) (hs3 : starEach [c] X.env = (false, eval c X.env) :: starEach [] X.env) :
    PI X tg (.Call (.Name "range" p) [a, b, c] [] pos) (LI T R (wRng (w3L va vb vc))) := by
  refine PIi (pi_B3 hg hm (pa_cons ha (pa_cons hb (pa_cons hc pa_nil hs3) hs2) hs) hs (by rw [hs2, hs3]; rfl)) fun σ H Q ⟨G, ρ, C, P, st, v, q⟩ => ⟨G, ρ, C, _, st, v, fun x ρ1 C1 u G1 H1 h1 s1 f1 r1 => ⟨G1, ρ1, C1, _, s1, h1, fun y ρ2 C2 w G2 H2 h2 s2 f2 r2 => ⟨G2, ρ2, C2, _, s2, h2, fun z ρ3 C3 w3 G3 H3 h3 s3 f3 r3 => ?_⟩⟩⟩
  obtain ⟨i, j, c, n, e, hc, k⟩ := rng_three h3 rfl
  cases e
  obtain rfl : u = .int i := r1
  obtain rfl : w = .int j := r2
  obtain rfl : w3 = .int c := r3
  exact ⟨i, j, c, n, rfl, hc, q _ ρ3 C3 _ G3 H3 k s3 ((f1.trans f2).trans f3) (itd_rngC i c n)⟩
theorem li_enum {elts : List Expr} {kk : Nat} (hK : X.K = T.K) (hg : Gl X "enumerate") (hm : X.mg "enumerate" = none) (ha : PE X e (LE T R va)) (hs : starEach [e] X.env = (false, eval e X.env) :: starEach [] X.env) :
    PI X (.Tuple elts kk tpos) (.Call (.Name "enumerate" p) [e] [] pos) (LI T R fun ρ C K xd => va ρ C (fun x ρ1 C1 => itsD x fun xs => K (enumL 0 xs) ρ1 C1) xd) := by
  refine PIi (pi_enumT hg hm (pa_cons ha pa_nil hs) (by rw [hs]; rfl)) fun σ H Q ⟨G, ρ, C, P, st, v, q⟩ => ⟨G, ρ, C, _, st, v, fun x ρ1 C1 u G1 H1 h1 s1 f1 r1 => ?_⟩
  cases x with
  | scr ns =>
    obtain ⟨a, rfl, ha⟩ := r1
    exact ⟨a, _, rfl, .inl ⟨hK ▸ s1.rel.sub.seq ha, q _ ρ1 C1 _ G1 H1 h1 s1 f1 (itd_enum (fun G1 H1 C1 up rel => hK ▸ rel.sub.seq (up.seq ha)) (Reps.ofInts ns))⟩⟩
  | lst ds =>
    obtain ⟨a, vs, rfl, ha, hr⟩ := r1
    exact ⟨a, vs, rfl, .inl ⟨SqL.of (s1.rel.sub _ _ ha), q _ ρ1 C1 _ G1 H1 h1 s1 f1 (itd_enum (fun G1 H1 C1 up rel => SqL.of (rel.sub _ _ (up _ _ ha))) hr)⟩⟩
  | tup ds =>
    obtain ⟨a, vs, rfl, ha, hr⟩ := r1
    exact ⟨a, vs, rfl, .inr ⟨hK ▸ sqt_up s1.rel.sub ha, q _ ρ1 C1 _ G1 H1 h1 s1 f1 (itd_enumT (fun G1 H1 C1 up rel => hK ▸ sqt_up rel.sub (sqt_up up ha)) hr)⟩⟩
  | _ => exact (show False from h1).elim
theorem li_zip {elts : List Expr} {kk : Nat} (hK : X.K = T.K) (hg : Gl X "zip") (hm : X.mg "zip" = none) (ha : PE X e (LE T R va)) (hb : PE X e2 (LE T R vb)) (hs : starEach [e, e2] X.env = (false, eval e X.env) :: starEach [e2] X.env) (hs2 : starEach [e2] X.env = (false, eval e2 X.env) :: starEach [] X.env) :
    PI X (.Tuple elts kk tpos) (.Call (.Name "zip" p) [e, e2] [] pos) (LI T R fun ρ C K xd => va ρ C (fun x ρ1 C1 => vb ρ1 C1 (fun y ρ2 C2 => match x with
      | .lst xs => match y with
        | .lst ys => K (zipL xs ys) ρ2 C2
        | _ => False
      | .tup xs => match y with
        | .tup ys => K (zipL xs ys) ρ2 C2
        | _ => False
      | _ => False) xd) xd) := by
  refine PIi (RZ.pi_zipA hg hm (pa_cons ha (pa_cons hb pa_nil hs2) hs) hs (by rw [hs2]; rfl)) fun σ H Q ⟨G, ρ, C, P, st, v, q⟩ => ⟨G, ρ, C, _, st, v, fun x ρ1 C1 u G1 H1 h1 s1 f1 r1 => ⟨G1, ρ1, C1, _, s1, h1, fun y ρ2 C2 w G2 H2 h2 s2 f2 r2 => ?_⟩⟩
  have r1 := r1.up f2.up
  cases x with
  | lst xs =>
    cases y with
    | lst ys =>
      obtain ⟨a, vs, rfl, ha, hr⟩ := r1
      obtain ⟨b, us, rfl, hb, hs⟩ := r2
      exact ⟨a, b, vs, us, rfl, .inl ⟨SqL.of (s2.rel.sub _ _ ha), SqL.of (s2.rel.sub _ _ hb), q _ ρ2 C2 _ G2 H2 h2 s2 (f1.trans f2) (itd_zipL ha hr hb hs)⟩⟩
    | _ => exact (show False from h2).elim
  | tup xs =>
    cases y with
    | tup ys =>
      obtain ⟨a, vs, rfl, ha, hr⟩ := r1
      obtain ⟨b, us, rfl, hb, hs⟩ := r2
      exact ⟨a, b, vs, us, rfl, .inr ⟨hK ▸ sqt_up s2.rel.sub ha, hK ▸ sqt_up s2.rel.sub hb, q _ ρ2 C2 _ G2 H2 h2 s2 (f1.trans f2) (itd_zipT hK ha hr hb hs)⟩⟩
    | _ => exact (show False from h2).elim
  | _ => exact (show False from h2).elim
end
end Mp

set_option Elab.async false
set_option linter.all false
set_option maxRecDepth 100000
set_option maxHeartbeats 4000000
/-! Mp, part H: comprehensions, statements. -/
namespace Mp
open PySem PySem.Spec L2

/-! ### comprehensions -/
theorem wipe_sr {T : Tb} {G : Hp} {σ : L2.St} {ρ : Ro} (h : SR T G σ ρ) (hl : ρ.length = σ.length) : ∀ vs : List Nat, SR T G (wipe σ vs) (wipeD ρ vs) ∧ (wipeD ρ vs).length = (wipe σ vs).length
  | [] => ⟨h, hl⟩
  | v :: vs => by
    obtain ⟨h1, h2⟩ := wipe_sr h hl vs
    refine ⟨fun i d q => ?_, by show ((wipeD ρ vs).set v none).length = ((wipe σ vs).set v none).length; rw [List.length_set, List.length_set]; exact h2⟩
    have q' : ((wipeD ρ vs).set v none)[i]? = some (some d) := q
    show ∃ u, ((wipe σ vs).set v none)[i]? = some (some u) ∧ _
    by_cases hi : v = i
    · subst hi
      by_cases hv : v < (wipeD ρ vs).length
      · rw [List.getElem?_set_self hv] at q'; cases q'
      · rw [List.getElem?_eq_none (by rw [List.length_set]; omega)] at q'; cases q'
    · rw [List.getElem?_set_ne hi] at q' ⊢
      exact h1 i d q'
/-- within a block: nothing is raised -/
def Rb : Rg := ⟨fun _ _ _ _ => False, xd0, fun _ => none, fun _ => none, fun _ => none⟩
theorem rb_fr {G H : Hp} {C : Cs} : Fr Rb.G0 Rb.H0 Rb.C0 G H C := ⟨fun a o e => (by cases (show (none : Option HO) = some o from e)), fun a o e _ => (by cases (show (none : Option HO) = some o from e))⟩
theorem rb_ok {T : Tb} : RgOk T Rb := fun _ _ _ _ _ _ _ _ _ h _ => h
section
variable {T : Tb} {G H : Hp} {C : Cs} {p : Addr} {o : HO} {co : CO}
/-- a thing under way: tracked, of no account yet -/
theorem Rel.wr (r : Rel T G H C) (hg : G p = none) (hc : C p = none) : Rel T G (upd H p o) C := by
  refine ⟨fun b u e => ?_, fun b co e => ?_⟩
  · rw [upd_ne (ne_of_none e hg)]; exact r.sub _ _ e
  · have hb : b ≠ p := fun z => by rw [z, hc] at e; cases e
    obtain ⟨h1, u, h2, h3⟩ := r.cel _ _ e
    exact ⟨h1, u, by rw [upd_ne hb]; exact h2, h3⟩
theorem Fr.wr {G0 H0 : Hp} {C0 : Cs} (f : Fr G0 H0 C0 G H C) (hp : H0 p = none) : Fr G0 H0 C0 G (upd H p o) C := ⟨f.up, fun b u e n => by
  obtain ⟨h1, h2, h3⟩ := f.kp b u e n
  exact ⟨by rw [upd_ne (ne_of_none e hp)]; exact h1, h2, h3⟩⟩
/-- it stands from now on -/
theorem Rel.done (r : Rel T G H C) (hg : G p = none) (hc : C p = none) (h : H p = some o) : Rel T (upd G p o) H C := by
  refine ⟨fun b u e => ?_, fun b co e => ?_⟩
  · by_cases hb : b = p
    · subst hb; rw [upd_same] at e; cases e; exact h
    · rw [upd_ne hb] at e; exact r.sub _ _ e
  · have hb : b ≠ p := fun z => by rw [z, hc] at e; cases e
    obtain ⟨h1, u, h2, h3⟩ := r.cel _ _ e
    exact ⟨by rw [upd_ne hb]; exact h1, u, h2, h3.up (same_upd hg)⟩
theorem Fr.done {G0 H0 : Hp} {C0 : Cs} (f : Fr G0 H0 C0 G H C) (hg : G p = none) (hp : H0 p = none) : Fr G0 H0 C0 (upd G p o) H C := ⟨f.up.trans (same_upd hg), fun b u e n => by
  obtain ⟨h1, h2, h3⟩ := f.kp b u e n
  exact ⟨h1, by rw [upd_ne (ne_of_none e hp)]; exact h2, h3⟩⟩
/-- it may change from now on -/
theorem Rel.cell (r : Rel T G H C) (hg : G p = none) (hc : C p = none) (h : H p = some o) (ho : RepO T G co o) : Rel T G H (cset C p co) := by
  refine ⟨r.sub, fun b u e => ?_⟩
  by_cases hb : b = p
  · subst hb
    rw [cset_same] at e; cases e
    exact ⟨hg, o, h, ho⟩
  · rw [cset_ne hb] at e
    exact r.cel _ _ e
theorem Fr.cell {G0 H0 : Hp} {C0 : Cs} (f : Fr G0 H0 C0 G H C) (hp : H0 p = none) : Fr G0 H0 C0 G H (cset C p co) := ⟨f.up, fun b u e n => by
  obtain ⟨h1, h2, h3⟩ := f.kp b u e n
  exact ⟨h1, h2, by rw [cset_ne (ne_of_none e hp)]; exact h3⟩⟩
end
section
variable {X : Cx} {T : Tb} {R : Rg} {tg elt kx vx iter : Expr} {ifs : List Expr} {scope : Scope} {own : List (Str × Nat)} {pos : Pos} {vi : WL} {mt : MT} {wt : Ro → Cs → KT → XD → Prop} {we wk : Ro → Cs → KE → XD → Prop} {mu : Bool}
abbrev wComp (mu : Bool) (mt : MT) (wt : Ro → Cs → KT → XD → Prop) (we : Ro → Cs → KE → XD → Prop) (vi : WL) (vs : List Nat) : Ro → Cs → KE → XD → Prop := fun ρ C K xd => vi ρ C (fun ds ρ1 C1 => compW mt (fun ρ C K => wt ρ C K xd0) (fun ρ C K => we ρ C K xd0) (wipeD ρ1 vs) ds C1 [] fun acc C2 => newW mu (.lst acc) (.lst acc) ρ1 C2 K) xd
theorem comp_imp {vs : List Nat} (hv : ∀ i ∈ mtIx mt, i ∈ vs) {σ : L2.St} {H : Hp} {Q : VK} (h : LE T R (wComp mu mt wt we vi vs) σ H Q) : tLc (LI T R vi) (LG T Rb mt) (LT T Rb wt) (LE T Rb we) vs σ H Q := by
  obtain ⟨G, ρ, C, P, st, v, q⟩ := h
  refine ⟨G, ρ, C, _, st, v, fun ds ρ1 C1 J G1 H1 h1 s1 f1 it Dl hD => ?_⟩
  obtain ⟨hg, hc⟩ := s1.rel.fresh hD
  obtain ⟨r2, f2⟩ := s1.rel.add (o := .lst []) hD
  refine ⟨fun i m H' => m = ds.length - i ∧ i ≤ ds.length ∧ ∃ G2 C2 acc us, Rel T G2 H' C2 ∧ G2 Dl = none ∧ C2 Dl = none ∧ H' Dl = some (.lst us) ∧ Reps T G2 acc us ∧ Fr G1 H1 C1 G2 H' C2 ∧
    compW mt (fun ρ C K => wt ρ C K xd0) (fun ρ C K => we ρ C K xd0) (wipeD ρ1 vs) (ds.drop i) C2 acc (fun acc C2 => newW mu (.lst acc) (.lst acc) ρ1 C2 P),
    ⟨_, rfl, Nat.zero_le _, G1, C1, [], [], r2, hg, hc, upd_same, Reps.nil, f2, h1⟩, ?_⟩
  rintro i m H' ⟨rfl, hi, G2, C2, acc, us, rel, g2, c2, e2, hr, fr, w⟩
  obtain ⟨i1, i2⟩ := it G2 H' C2 fr.up rel i
  by_cases hlt : i < ds.length
  · have ed : ds[i]? = some ds[i] := by simp [hlt]
    obtain ⟨go, hy⟩ := i2 _ ed
    rw [List.drop_eq_getElem_cons hlt] at w
    refine .inr ⟨go, fun H3 => i + 1 ≤ ds.length ∧ ∃ G2 C2 acc us, Rel T G2 H3 C2 ∧ G2 Dl = none ∧ C2 Dl = none ∧ H3 Dl = some (.lst us) ∧ Reps T G2 acc us ∧ Fr G1 H1 C1 G2 H3 C2 ∧
      compW mt (fun ρ C K => wt ρ C K xd0) (fun ρ C K => we ρ C K xd0) (wipeD ρ1 vs) (ds.drop (i + 1)) C2 acc (fun acc C2 => newW mu (.lst acc) (.lst acc) ρ1 C2 P), fun H3 ⟨a, b⟩ => ⟨_, by omega, rfl, a, b⟩, fun x H3 y => ?_⟩
    obtain ⟨G3, rel3, fr3, rep⟩ := hy x H3 y
    obtain ⟨e3, g3, c3⟩ := fr3.kp Dl _ e2 c2
    rw [g2] at g3
    obtain ⟨sr0, l0⟩ := wipe_sr ((s1.sr.up fr.up).up fr3.up) s1.len vs
    have st3 : Stt T Rb G3 H3 (wipe σ vs) (wipeD ρ1 vs) C2 := ⟨rel3, sr0, l0, rb_fr⟩
    refine ⟨G3, wipeD ρ1 vs, C2, ds[i], _, st3, rep, w, fun ρ' σ' k s' hw => ⟨?_, ?_⟩⟩
    · rw [hw vs hv]
      have wipe_wipe : ∀ ws : List Nat, (∀ i ∈ ws, i ∈ vs) → ∀ τ : L2.St, (∀ i ∈ vs, ∀ x, τ[i]? ≠ some (some x)) → wipe τ ws = τ := by
        intro ws
        induction ws with
        | nil => intro _ τ _; rfl
        | cons a ws ih =>
          intro hs τ ht
          show (wipe τ ws).set a none = τ
          rw [ih (fun i hi => hs i (List.mem_cons_of_mem _ hi)) τ ht]
          apply List.ext_getElem?
          intro j
          by_cases hj : a = j
          · subst hj
            by_cases hl : a < τ.length
            · rw [List.getElem?_set_self hl]
              cases e : τ[a]? with
              | none => rw [List.getElem?_eq_none_iff] at e; omega
              | some o =>
                cases o with
                | none => rfl
                | some x => exact absurd e (ht a (hs a (List.mem_cons_self ..)) x)
            · rw [List.getElem?_eq_none (by rw [List.length_set]; omega), List.getElem?_eq_none (by omega)]
          · rw [List.getElem?_set_ne hj]
      exact wipe_wipe vs (fun i h => h) _ fun i hi x e => (wipe_some e).2 hi
    · refine ⟨G3, ρ', C2, _, s', k, fun b ρ4 C4 G4 H4 k4 s4 f4 => ?_⟩
      obtain ⟨e4, g4, c4⟩ := f4.kp Dl _ e3 c2
      rw [g3] at g4
      have fr4 := (fr.trans fr3).trans f4
      cases b with
      | true =>
        rw [if_pos rfl]
        refine ⟨G4, ρ4, C4, _, s4, k4, fun y ρ5 C5 u G5 H5 k5 s5 f5 r5 => ?_⟩
        obtain ⟨e5, g5, c5⟩ := f5.kp Dl _ e4 c4
        rw [g4] at g5
        obtain ⟨kz, k5⟩ := k5
        refine ⟨us, e5, by rw [hr.len]; exact kz, hlt, G5, C5, acc ++ [y], us ++ [u], s5.rel.wr g5 c5, g5, c5, upd_same, ?_, (fr4.trans f5).wr hD, k5⟩
        exact (Reps.up f5.up _ _ (Reps.up f4.up _ _ (Reps.up fr3.up _ _ hr))).app (.cons r5 .nil)
      | false =>
        rw [if_neg (by decide)]
        exact ⟨hlt, G4, C4, acc, us, s4.rel, g4, c4, e4, Reps.up f4.up _ _ (Reps.up fr3.up _ _ hr), fr4, k4⟩
  · have e : i = ds.length := by omega
    subst e
    rw [List.drop_length] at w
    refine .inl ⟨i1 (Nat.le_refl _), ?_⟩
    have w' : newW mu (.lst acc) (.lst acc) ρ1 C2 P := w
    have f3 := f1.trans fr
    cases mu with
    | false =>
      refine q _ ρ1 C2 _ (upd G2 Dl (.lst us)) H' w' ?_ (f1.trans (fr.done g2 hD)) (rep_lst hr g2)
      exact s1.step (rel.done g2 c2 e2) (fr.done g2 hD)
    | true =>
      refine q _ ρ1 _ _ G2 H' (w' Dl c2) ?_ (f1.trans (fr.cell hD)) rfl
      exact s1.step (rel.cell g2 c2 e2 ⟨us, rfl, hr⟩) (fr.cell hD)
abbrev wDcomp (mu : Bool) (mt : MT) (wt : Ro → Cs → KT → XD → Prop) (wk we : Ro → Cs → KE → XD → Prop) (vi : WL) (vs : List Nat) : Ro → Cs → KE → XD → Prop := fun ρ C K xd => vi ρ C (fun ds ρ1 C1 => dcompW mt (fun ρ C K => wt ρ C K xd0) (fun ρ C K => wk ρ C K xd0) (fun ρ C K => we ρ C K xd0) (wipeD ρ1 vs) ds C1 [] [] fun ks xs C2 => newW mu (.dct ks xs) (.dct ks xs) ρ1 C2 K) xd
theorem nd_put {ks : List Key} {k : Key} (h : ks.Nodup) : (dputK ks k).Nodup := by
  unfold dputK
  split
  · exact h
  · rename_i hn
    rw [List.nodup_append]
    refine ⟨h, by simp, fun a ha b hb e => hn ?_⟩
    rw [List.mem_singleton] at hb
    subst hb
    exact List.any_eq_true.mpr ⟨a, ha, decide_eq_true e⟩
theorem dcomp_imp {vs : List Nat} (hv : ∀ i ∈ mtIx mt, i ∈ vs) {σ : L2.St} {H : Hp} {Q : VK} (h : LE T R (wDcomp mu mt wt wk we vi vs) σ H Q) : tDc (LI T R vi) (LG T Rb mt) (LT T Rb wt) (LE T Rb wk) (LE T Rb we) vs σ H Q := by
  obtain ⟨G, ρ, C, P, st, v, q⟩ := h
  refine ⟨G, ρ, C, _, st, v, fun ds ρ1 C1 J G1 H1 h1 s1 f1 it Dl hD => ?_⟩
  obtain ⟨hg, hc⟩ := s1.rel.fresh hD
  obtain ⟨r2, f2⟩ := s1.rel.add (o := .dK []) hD
  have st0 : ∀ H' : Hp, (i : Nat) → Prop := fun _ _ => True
  refine ⟨fun i m H' => m = ds.length - i ∧ i ≤ ds.length ∧ ∃ G2 C2 ks xs kvs, Rel T G2 H' C2 ∧ G2 Dl = none ∧ C2 Dl = none ∧ H' Dl = some (.dK kvs) ∧ kvs.map (·.1) = ks ∧ ks.Nodup ∧ Reps T G2 xs (kvs.map (·.2)) ∧ Fr G1 H1 C1 G2 H' C2 ∧
    dcompW mt (fun ρ C K => wt ρ C K xd0) (fun ρ C K => wk ρ C K xd0) (fun ρ C K => we ρ C K xd0) (wipeD ρ1 vs) (ds.drop i) C2 ks xs (fun ks xs C2 => newW mu (.dct ks xs) (.dct ks xs) ρ1 C2 P),
    ⟨_, rfl, Nat.zero_le _, G1, C1, [], [], [], r2, hg, hc, upd_same, rfl, List.nodup_nil, Reps.nil, f2, h1⟩, ?_⟩
  rintro i m H' ⟨rfl, hi, G2, C2, ks, xs, kvs, rel, g2, c2, e2, ek, nd, hr, fr, w⟩
  obtain ⟨i1, i2⟩ := it G2 H' C2 fr.up rel i
  by_cases hlt : i < ds.length
  · have ed : ds[i]? = some ds[i] := by simp [hlt]
    obtain ⟨go, hy⟩ := i2 _ ed
    rw [List.drop_eq_getElem_cons hlt] at w
    refine .inr ⟨go, fun H3 => i + 1 ≤ ds.length ∧ ∃ G2 C2 ks xs kvs, Rel T G2 H3 C2 ∧ G2 Dl = none ∧ C2 Dl = none ∧ H3 Dl = some (.dK kvs) ∧ kvs.map (·.1) = ks ∧ ks.Nodup ∧ Reps T G2 xs (kvs.map (·.2)) ∧ Fr G1 H1 C1 G2 H3 C2 ∧
      dcompW mt (fun ρ C K => wt ρ C K xd0) (fun ρ C K => wk ρ C K xd0) (fun ρ C K => we ρ C K xd0) (wipeD ρ1 vs) (ds.drop (i + 1)) C2 ks xs (fun ks xs C2 => newW mu (.dct ks xs) (.dct ks xs) ρ1 C2 P), fun H3 ⟨a, b⟩ => ⟨_, by omega, rfl, a, b⟩, fun x H3 y => ?_⟩
    obtain ⟨G3, rel3, fr3, rep⟩ := hy x H3 y
    obtain ⟨e3, g3, c3⟩ := fr3.kp Dl _ e2 c2
    rw [g2] at g3
    obtain ⟨sr0, l0⟩ := wipe_sr ((s1.sr.up fr.up).up fr3.up) s1.len vs
    have st3 : Stt T Rb G3 H3 (wipe σ vs) (wipeD ρ1 vs) C2 := ⟨rel3, sr0, l0, rb_fr⟩
    refine ⟨G3, wipeD ρ1 vs, C2, ds[i], _, st3, rep, w, fun ρ' σ' k s' hw => ⟨?_, ?_⟩⟩
    · rw [hw vs hv]
      have wipe_wipe : ∀ ws : List Nat, (∀ i ∈ ws, i ∈ vs) → ∀ τ : L2.St, (∀ i ∈ vs, ∀ x, τ[i]? ≠ some (some x)) → wipe τ ws = τ := by
        intro ws
        induction ws with
        | nil => intro _ τ _; rfl
        | cons a ws ih =>
          intro hs τ ht
          show (wipe τ ws).set a none = τ
          rw [ih (fun i hi => hs i (List.mem_cons_of_mem _ hi)) τ ht]
          apply List.ext_getElem?
          intro j
          by_cases hj : a = j
          · subst hj
            by_cases hl : a < τ.length
            · rw [List.getElem?_set_self hl]
              cases e : τ[a]? with
              | none => rw [List.getElem?_eq_none_iff] at e; omega
              | some o =>
                cases o with
                | none => rfl
                | some x => exact absurd e (ht a (hs a (List.mem_cons_self ..)) x)
            · rw [List.getElem?_eq_none (by rw [List.length_set]; omega), List.getElem?_eq_none (by omega)]
          · rw [List.getElem?_set_ne hj]
      exact wipe_wipe vs (fun i h => h) _ fun i hi x e => (wipe_some e).2 hi
    · refine ⟨G3, ρ', C2, _, s', k, fun b ρ4 C4 G4 H4 k4 s4 f4 => ?_⟩
      obtain ⟨e4, g4, c4⟩ := f4.kp Dl _ e3 c2
      rw [g3] at g4
      have fr4 := (fr.trans fr3).trans f4
      have hr4 := Reps.up f4.up _ _ (Reps.up fr3.up _ _ hr)
      cases b with
      | true =>
        rw [if_pos rfl]
        refine ⟨G4, ρ4, C4, _, s4, k4, fun y ρ5 C5 u G5 H5 k5 s5 f5 r5 => ⟨G5, ρ5, C5, _, s5, k5, fun z ρ6 C6 u6 G6 H6 k6 s6 f6 r6 => ?_⟩⟩
        obtain ⟨e5, g5, c5⟩ := f5.kp Dl _ e4 c4
        rw [g4] at g5
        obtain ⟨e6, g6, c6⟩ := f6.kp Dl _ e5 c5
        rw [g5] at g6
        obtain ⟨kk, rfl, kz, k7⟩ := keyD_of k6 (Rep.top s5.rel.sub r5)
        subst ek
        refine ⟨kvs, kk, rfl, e6, by rw [List.length_map] at kz; exact kz, hlt, G6, C6, dputK (kvs.map (·.1)) kk, dputD (kvs.map (·.1)) xs kk z, putK kvs kk u6, s6.rel.wr g6 c6, g6, c6, upd_same, put_keys kk u6 kvs, nd_put nd, ?_, ((fr4.trans f5).trans f6).wr hD, k7⟩
        exact put_vals r6 nd (Reps.up f6.up _ _ (Reps.up f5.up _ _ hr4))
      | false =>
        rw [if_neg (by decide)]
        exact ⟨hlt, G4, C4, ks, xs, kvs, s4.rel, g4, c4, e4, ek, nd, hr4, fr4, k4⟩
  · have e : i = ds.length := by omega
    subst e
    rw [List.drop_length] at w
    refine .inl ⟨i1 (Nat.le_refl _), ?_⟩
    have w' : newW mu (.dct ks xs) (.dct ks xs) ρ1 C2 P := w
    cases mu with
    | false =>
      refine q _ ρ1 C2 _ (upd G2 Dl (.dK kvs)) H' w' ?_ (f1.trans (fr.done g2 hD)) ⟨Dl, kvs, rfl, upd_same, ek, Reps.up (same_upd g2) _ _ hr⟩
      exact s1.step (rel.done g2 c2 e2) (fr.done g2 hD)
    | true =>
      refine q _ ρ1 _ _ G2 H' (w' Dl c2) ?_ (f1.trans (fr.cell hD)) rfl
      exact s1.step (rel.cell g2 c2 e2 ⟨kvs, rfl, ek, hr⟩) (fr.cell hD)
end

/-! ### statements -/
structure EO (T : Tb) (R : Rg) (G H : Hp) (C : Cs) (E : En) (D : Ends) : Prop where
  nx : ∀ ρ' C' σ' G' H', E.nx ρ' C' → Stt T R G' H' σ' ρ' C' → Fr G H C G' H' C' → D.nx σ' H'
  bk : ∀ ρ' C' σ' G' H', E.bk ρ' C' → Stt T R G' H' σ' ρ' C' → Fr G H C G' H' C' → D.bk σ' H'
  ct : ∀ ρ' C' σ' G' H', E.ct ρ' C' → Stt T R G' H' σ' ρ' C' → Fr G H C G' H' C' → D.ct σ' H'
  rt : ∀ d C' u G' H', E.rt d C' → Rel T G' H' C' → Fr R.G0 R.H0 R.C0 G' H' C' → Rep T G' d u → D.rt u H'
theorem EO.after {T : Tb} {R : Rg} {G H G1 H1 : Hp} {C C1 : Cs} {E : En} {D : Ends} (e : EO T R G H C E D) (f : Fr G H C G1 H1 C1) : EO T R G1 H1 C1 E D :=
  ⟨fun ρ' C' σ' G' H' h s g => e.nx ρ' C' σ' G' H' h s (f.trans g), fun ρ' C' σ' G' H' h s g => e.bk ρ' C' σ' G' H' h s (f.trans g), fun ρ' C' σ' G' H' h s g => e.ct ρ' C' σ' G' H' h s (f.trans g), e.rt⟩
def LS (T : Tb) (R : Rg) (v : Ro → Cs → En → Prop) : TS := fun D σ H => ∃ G ρ C E, Stt T R G H σ ρ C ∧ v ρ C { E with ex := R.xd } ∧ EO T R G H C E D
section
variable {X : Cx} {T : Tb} {R : Rg} {e o a b : Expr} {es : List Expr} {pos : Pos} {va vb vo : Ro → Cs → KE → XD → Prop} {vl : WL} {st : Stmt} {sts as bs : List Stmt} {tg : Expr} {mt : MT}
theorem ls_nil : PSs X [] (LS T R fun ρ C E => E.nx ρ C) := PSsi pss_nil fun D σ H ⟨G, ρ, C, E, s, v, eo⟩ => eo.nx ρ C σ G H v s Fr.refl
theorem ls_cons {w ws : Ro → Cs → En → Prop} (h1 : PS X st (LS T R w)) (h2 : PSs X sts (LS T R ws)) : PSs X (st :: sts) (LS T R fun ρ C E => w ρ C { E with nx := fun ρ1 C1 => ws ρ1 C1 E }) :=
  PSsi (pss_cons h1 h2) fun D σ H ⟨G, ρ, C, E, s, v, eo⟩ => ⟨G, ρ, C, { E with nx := fun ρ1 C1 => ws ρ1 C1 { E with ex := R.xd } }, s, v, ⟨fun ρ' C' σ' G' H' h s' f => ⟨G', ρ', C', E, s', h, eo.after f⟩, eo.bk, eo.ct, eo.rt⟩⟩
theorem ls_pass : PS X (.Pass pos) (LS T R fun ρ C E => E.nx ρ C) := PSi ps_pass fun D σ H ⟨G, ρ, C, E, s, v, eo⟩ => eo.nx ρ C σ G H v s Fr.refl
theorem ls_brk : PS X (.Break pos) (LS T R fun ρ C E => E.bk ρ C) := PSi ps_break fun D σ H ⟨G, ρ, C, E, s, v, eo⟩ => eo.bk ρ C σ G H v s Fr.refl
theorem ls_cnt : PS X (.Continue pos) (LS T R fun ρ C E => E.ct ρ C) := PSi ps_continue fun D σ H ⟨G, ρ, C, E, s, v, eo⟩ => eo.ct ρ C σ G H v s Fr.refl
theorem ls_retN : PS X (.Return none pos) (LS T R fun _ C E => E.rt .non C) := PSi ps_retN fun D σ H ⟨G, ρ, C, E, s, v, eo⟩ => eo.rt _ C _ G H v s.rel s.fr rfl
theorem ls_ret (ha : PE X e (LE T R va)) : PS X (.Return (some e) pos) (LS T R fun ρ C E => va ρ C (fun x _ C1 => E.rt x C1) E.ex) :=
  PSi (ps_ret ha) fun D σ H ⟨G, ρ, C, E, s, v, eo⟩ => ⟨G, ρ, C, _, s, v, fun x ρ1 C1 u G1 H1 h1 s1 f1 r1 => eo.rt x C1 u G1 H1 h1 s1.rel s1.fr r1⟩
theorem ls_expr (ha : PE X e (LE T R va)) (hs : swapsWith e none pos.line X.env = pure false) : PS X (.Expr e pos) (LS T R fun ρ C E => va ρ C (fun _ ρ1 C1 => E.nx ρ1 C1) E.ex) :=
  PSi (ps_expr ha hs) fun D σ H ⟨G, ρ, C, E, s, v, eo⟩ => ⟨G, ρ, C, _, s, v, fun x ρ1 C1 u G1 H1 h1 s1 f1 r1 => eo.nx _ _ _ _ _ h1 s1 f1⟩
theorem ls_never : PS X st (LS T R fun _ _ _ => False) := PSi ps_never fun D σ H ⟨G, ρ, C, E, s, v, eo⟩ => v.elim
theorem ls_doc {x : Str} {j : Nat} {pos' : Pos} : PS X (.Expr (.Constant (.str x) j pos) pos') (LS T R fun ρ C E => E.nx ρ C) := PSi ps_doc fun D σ H ⟨G, ρ, C, E, s, v, eo⟩ => eo.nx ρ C σ G H v s Fr.refl
theorem ls_asg {i : Nat} (h : PS X st (tAsg (LE T R va) (gName i))) : PS X st (LS T R fun ρ C E => va ρ C (fun x ρ1 C1 => E.nx (ρ1.set i (some x)) C1) E.ex) :=
  PSi h fun D σ H ⟨G, ρ, C, E, s, v, eo⟩ => ⟨G, ρ, C, _, s, v, fun x ρ1 C1 u G1 H1 h1 s1 f1 r1 => eo.nx _ _ _ _ _ h1 (s1.set i r1) f1⟩
theorem ls_tasg (ha : PE X e (LE T R va)) (hg : PG X tg (LG T R mt)) (hs : swapsWithSole [tg] e pos.line X.env = pure false) (hw : swappedStores [tg] e X.env = pure none) (h1 : (assignEach [tg] X.env).map (·.2) = [assign tg X.env]) :
    PS X (.Assign [tg] e pos) (LS T R fun ρ C E => va ρ C (fun x ρ1 C1 => wTg mt x ρ1 fun ρ2 => E.nx ρ2 C1) E.ex) :=
  PSi (ps_asg ha hg hs hw h1) fun D σ H ⟨G, ρ, C, E, s, v, eo⟩ => ⟨G, ρ, C, _, s, v, fun x ρ1 C1 u G1 H1 h1 s1 f1 r1 => ⟨G1, ρ1, C1, x, _, s1, r1, h1, fun ρ2 σ2 k s2 _ => eo.nx _ _ _ _ _ k s2 f1⟩⟩
theorem ls_par2 {i j : Nat} (h : PS X st (tPar i j (LL T R vl))) : PS X st (LS T R fun ρ C E => vl ρ C (fun ds ρ1 C1 => ds.length = [i, j].length ∧ E.nx (setAll [i, j] ds ρ1) C1) E.ex) := by
  refine PSi h fun D σ H ⟨G, ρ, C, E, s, v, eo⟩ => ⟨G, ρ, C, _, s, v, fun xs ρ1 C1 us G1 H1 h1 s1 f1 r1 => ?_⟩
  obtain ⟨hl, h1⟩ := h1
  match xs, hl with
  | [x, y], _ =>
    obtain ⟨u, r, rfl, e1, u2, r2, rfl, e2, e3⟩ := r1
    obtain rfl : r2 = [] := e3
    exact ⟨u, u2, rfl, eo.nx _ _ _ _ _ h1 ((s1.set i e1).set j e2) f1⟩
theorem ls_par3 {i j l : Nat} (h : PS X st (tPar3 i j l (LL T R vl))) : PS X st (LS T R fun ρ C E => vl ρ C (fun ds ρ1 C1 => ds.length = [i, j, l].length ∧ E.nx (setAll [i, j, l] ds ρ1) C1) E.ex) := by
  refine PSi h fun D σ H ⟨G, ρ, C, E, s, v, eo⟩ => ⟨G, ρ, C, _, s, v, fun xs ρ1 C1 us G1 H1 h1 s1 f1 r1 => ?_⟩
  obtain ⟨hl, h1⟩ := h1
  match xs, hl with
  | [x, y, z], _ =>
    obtain ⟨u, r, rfl, e1, u2, r2, rfl, e2, u3, r3, rfl, e3, e4⟩ := r1
    obtain rfl : r3 = [] := e4
    exact ⟨u, u2, u3, rfl, eo.nx _ _ _ _ _ h1 (((s1.set i e1).set j e2).set l e3) f1⟩
theorem ls_setF {c i : Nat} {m : Str} {pos' : Pos} (hK : X.K = T.K) (ho : PE X o (LE T R vo)) (ha : PE X e (LE T R va)) (hc : Cls T.K (T.cl c)) (hn : NoAttr T.K (T.cl c) m) (nd : (T.fl c).Nodup) (hi : (T.fl c)[i]? = some m) (hl : (T.fl c).length < 1000)
    (hs : swapsWith e (some (.Attribute o m pos')) pos.line X.env = pure false) : PS X (.Assign [.Attribute o m pos'] e pos) (LS T R fun ρ C E => va ρ C (fun x ρ1 C1 => vo ρ1 C1 (fun y ρ2 C2 => setFD y c i x C2 fun C3 => E.nx ρ2 C3) E.ex) E.ex) := by
  refine PSi (ps_fld ho ha hs) fun D σ H ⟨G, ρ, C, E, s, v, eo⟩ => ?_
  refine ⟨G, ρ, C, _, s, v, fun x ρ1 C1 u G1 H1 h1 s1 f1 r1 => ⟨G1, ρ1, C1, _, s1, h1, fun y ρ2 C2 w G2 H2 h2 s2 f2 r2 => ?_⟩⟩
  cases y with
  | ref a =>
    obtain rfl : w = .ref a := r2
    unfold setFD at h2
    dsimp only at h2
    cases q : C2 a with
    | none => rw [q] at h2; exact h2.elim
    | some co =>
      rw [q] at h2
      cases co with
      | ins c' ds =>
        obtain ⟨⟨rfl, hle⟩, h3⟩ := h2
        obtain ⟨_, ob, eh, dx, fs, rfl, e1, e2⟩ := s2.rel.cel _ _ q
        have hlen : fs.length = ds.length := by rw [← e2.len, List.length_map]
        have htk : fs.length < 1000 := by
          have := congrArg List.length e1
          rw [List.length_map, List.length_take] at this
          omega
        have hrep : RepO T G2 (.ins c' (putI i x ds)) (.ins (T.cl c') dx (putF m u fs)) := by
          refine ⟨dx, _, rfl, ?_⟩
          unfold putI
          by_cases hlt : i < ds.length
          · rw [if_pos hlt, List.length_set]
            obtain ⟨p1, p2⟩ := putF_old (v := u) nd (by rw [hlen]; exact e1) hi (by omega)
            rw [p1, p2]
            exact ⟨e1, e2.set i (r1.up f2.up)⟩
          · have ei : i = ds.length := by omega
            subst ei
            rw [if_neg hlt, putF_new (by rw [e1]; exact not_take nd hi)]
            rw [List.map_append, List.map_append, e1, List.length_append, List.length_singleton]
            refine ⟨?_, e2.app (.cons (r1.up f2.up) .nil)⟩
            rw [List.take_add_one, hi]
            rfl
        obtain ⟨r3, f3⟩ := s2.rel.put q hrep
        exact ⟨a, _, dx, fs, rfl, eh, hK ▸ hc, hK ▸ hn, htk, eo.nx _ _ _ _ _ h3 (s2.step r3 f3) ((f1.trans f2).trans f3)⟩
      | _ => exact (show False from h2).elim
  | _ => exact (show False from h2).elim
theorem ls_setI {vi : Ro → Cs → KE → XD → Prop} {t : TSet} (ht : t = fun o i v H Q => ∃ (G : Hp) (C : Cs) (x y z : D) (K : Cs → Prop), Rel T G H C ∧ Rep T G x o ∧ Rep T G y i ∧ Rep T G z v ∧ setID x y z C K ∧ ∀ G' H' C', K C' → Rel T G' H' C' → Fr G H C G' H' C' → Q H')
    (h : PS X st (tAsg (LE T R va) (gSub (LE T R vo) (LE T R vi) t))) : PS X st (LS T R fun ρ C E => va ρ C (fun x ρ1 C1 => vo ρ1 C1 (fun y ρ2 C2 => vi ρ2 C2 (fun z ρ3 C3 => setID y z x C3 fun C4 => E.nx ρ3 C4) E.ex) E.ex) E.ex) := by
  subst ht
  refine PSi h fun D σ H ⟨G, ρ, C, E, s, v, eo⟩ => ?_
  exact ⟨G, ρ, C, _, s, v, fun x ρ1 C1 u G1 H1 h1 s1 f1 r1 => ⟨G1, ρ1, C1, _, s1, h1, fun y ρ2 C2 w G2 H2 h2 s2 f2 r2 => ⟨G2, ρ2, C2, _, s2, h2, fun z ρ3 C3 w3 G3 H3 h3 s3 f3 r3 =>
    ⟨G3, C3, y, z, x, _, s3.rel, r2.up f3.up, r3, (r1.up f2.up).up f3.up, h3, fun G' H' C' k rel fr => eo.nx _ _ _ _ _ k (s3.step rel fr) (((f1.trans f2).trans f3).trans fr)⟩⟩⟩⟩
theorem ip_mulC {X : Cx} : PIp X .Mult fun x y H Q => ∃ i j, x = .int i ∧ y = .int j ∧ CMul i j ∧ Q (.int (i * j)) H := iop_mul
/-- name op= e -/
abbrev wAug (i : Nat) (op : Operator) (va : Ro → Cs → KE → XD → Prop) : Ro → Cs → En → Prop := fun ρ C E => match ρ[i]? with
      | some (some x) => va ρ C (fun y ρ1 C1 => match op with
        | .Add => (∃ a b, x = .int a ∧ y = .int b ∧ E.nx (ρ1.set i (some (.int (a + b)))) C1)
        | .Sub => (∃ a b, x = .int a ∧ y = .int b ∧ E.nx (ρ1.set i (some (.int (a - b)))) C1)
        | .Mult => (∃ a b, x = .int a ∧ y = .int b ∧ CMul a b ∧ E.nx (ρ1.set i (some (.int (a * b)))) C1)
        | _ => False) E.ex
      | _ => False
theorem ls_aug {i : Nat} {op : Operator} (h : ∀ ti, PIp X op ti → PS X st (tAug i (LE T R va) ti)) : PS X st (LS T R (wAug i op va)) := by
  have go : ∀ (f : Int → Int → Int) (g : Int → Int → Prop), (∀ x y (K : D → Prop), (match op with
        | .Add => (∃ a b, x = D.int a ∧ y = D.int b ∧ K (.int (a + b)))
        | .Sub => (∃ a b, x = .int a ∧ y = .int b ∧ K (.int (a - b)))
        | .Mult => (∃ a b, x = .int a ∧ y = .int b ∧ CMul a b ∧ K (.int (a * b)))
        | _ => False) → ∃ a b, x = .int a ∧ y = .int b ∧ g a b ∧ K (.int (f a b))) → (∀ ti : TIp, ti = (fun x y H Q => ∃ i j, x = .int i ∧ y = .int j ∧ g i j ∧ Q (.int (f i j)) H) → PIp X op ti) → PS X st (LS T R (wAug i op va)) := by
    intro f g hw hp
    refine PSi (h _ (hp _ rfl)) fun D σ H ⟨G, ρ, C, E, s, v, eo⟩ => ?_
    have v' : wAug i op va ρ C { E with ex := R.xd } := v
    unfold wAug at v'
    cases e1 : ρ[i]? with
    | none => rw [e1] at v'; exact v'.elim
    | some o =>
      cases o with
      | none => rw [e1] at v'; exact v'.elim
      | some d =>
        rw [e1] at v'
        obtain ⟨u, hu, hr⟩ := s.sr i d e1
        refine ⟨u, hu, G, ρ, C, _, s, v', fun y ρ1 C1 w G1 H1 h1 s1 f1 r1 => ?_⟩
        obtain ⟨a, b, rfl, rfl, hg, k⟩ := hw d y (fun z => E.nx (ρ1.set i (some z)) C1) h1
        obtain rfl : u = .int a := hr
        obtain rfl : w = .int b := r1
        exact ⟨a, b, rfl, rfl, hg, eo.nx _ _ _ _ _ k (s1.set i rfl) f1⟩
  cases op with
  | Add =>
    refine go (fun a b => a + b) (fun _ _ => True) (fun x y K ⟨a, b, h1, h2, h3⟩ => ⟨a, b, h1, h2, trivial, h3⟩) fun ti e => ?_
    subst e
    exact fun pins s σ H x y v u Q I r1 r2 ⟨i, j, h1, h2, _, h3⟩ => ip_add pins s σ H x y v u Q I r1 r2 ⟨i, j, h1, h2, h3⟩
  | Sub =>
    refine go (fun a b => a - b) (fun _ _ => True) (fun x y K ⟨a, b, h1, h2, h3⟩ => ⟨a, b, h1, h2, trivial, h3⟩) fun ti e => ?_
    subst e
    exact fun pins s σ H x y v u Q I r1 r2 ⟨i, j, h1, h2, _, h3⟩ => ip_sub pins s σ H x y v u Q I r1 r2 ⟨i, j, h1, h2, h3⟩
  | Mult =>
    refine go (fun a b => a * b) CMul (fun x y K h => h) fun ti e => ?_
    subst e
    exact ip_mulC
  | _ =>
    refine go (fun a b => a) (fun _ _ => False) (fun x y K h => (show False from h).elim) fun ti e => ?_
    subst e
    exact fun pins s σ H x y v u Q I r1 r2 ⟨i, j, h1, h2, z, h3⟩ => z.elim
theorem ls_if {w : WX} {u1 u2 : Ro → Cs → En → Prop} (hc : PT X e (LT T R w.tst)) (h1 : PSs X as (LS T R u1)) (h2 : PSs X bs (LS T R u2)) : PS X (.If e as bs pos) (LS T R fun ρ C E => w.tst ρ C (fun k ρ1 C1 => wIf k (u1 ρ1 C1 E) (u2 ρ1 C1 E)) E.ex) := by
  refine PSi (ps_if hc h1 h2) fun D σ H ⟨G, ρ, C, E, s, v, eo⟩ => ⟨G, ρ, C, _, s, v, fun k ρ1 C1 G1 H1 h1 s1 f1 => ?_⟩
  cases k with
  | true => exact ⟨G1, ρ1, C1, E, s1, h1, eo.after f1⟩
  | false => exact ⟨G1, ρ1, C1, E, s1, h1, eo.after f1⟩
theorem ls_for {iter : Expr} {vi : WL} {wb : Ro → Cs → En → Prop} (hp : PassesOwn (model X.prog X.w) X.A X.env X.xe) (hc : X.calm = true) (hi : PI X tg iter (LI T R vi)) (hg : PG X tg (LG T R mt)) (hb : PSs X as (LS T R wb)) (hs : ∀ x, foldedSetIterable iter X.env x = pure x) :
    PS X (.For tg iter as [] pos) (LS T R fun ρ C E => vi ρ C (fun ds ρ1 C1 => forW mt wb ds ρ1 C1 E) E.ex) := by
  refine PSi (ps_for hp hc hi hg hb hs) fun D σ H ⟨G, ρ, C, E, s, v, eo⟩ => ⟨G, ρ, C, _, s, v, fun ds ρ1 C1 J G1 H1 h1 s1 f1 it => ?_⟩
  refine ⟨fun i m σ' H' => m = ds.length - i ∧ i ≤ ds.length ∧ ∃ G2 ρ2 C2, Stt T R G2 H' σ' ρ2 C2 ∧ Fr G1 H1 C1 G2 H' C2 ∧ forW mt wb (ds.drop i) ρ2 C2 { E with ex := R.xd }, ⟨_, rfl, Nat.zero_le _, G1, ρ1, C1, s1, Fr.refl, h1⟩, ?_⟩
  rintro i m σ' H' ⟨rfl, hi, G2, ρ2, C2, s2, f2, w⟩
  obtain ⟨i1, i2⟩ := it G2 H' C2 f2.up s2.rel i
  by_cases hlt : i < ds.length
  · have ed : ds[i]? = some ds[i] := by simp [hlt]
    obtain ⟨go, hy⟩ := i2 _ ed
    rw [List.drop_eq_getElem_cons hlt] at w
    refine .inr ⟨go, fun σ3 H3 => i + 1 ≤ ds.length ∧ ∃ G2 ρ2 C2, Stt T R G2 H3 σ3 ρ2 C2 ∧ Fr G1 H1 C1 G2 H3 C2 ∧ forW mt wb (ds.drop (i + 1)) ρ2 C2 { E with ex := R.xd }, fun σ3 H3 ⟨a, b⟩ => ⟨_, by omega, rfl, a, b⟩, fun x H3 y => ?_⟩
    obtain ⟨G3, rel3, fr3, rep⟩ := hy x H3 y
    refine ⟨G3, ρ2, C2, ds[i], _, s2.step rel3 fr3, rep, w, fun ρ4 σ4 k s4 _ => ⟨G3, ρ4, C2, { E with nx := fun ρ2 C2 => forW mt wb (ds.drop (i + 1)) ρ2 C2 { E with ex := R.xd }, ct := fun ρ2 C2 => forW mt wb (ds.drop (i + 1)) ρ2 C2 { E with ex := R.xd }, bk := E.nx }, s4, k, ?_⟩⟩
    have f4 := f2.trans fr3
    exact ⟨fun ρ' C' σ' G' H' h s f => ⟨hlt, G', ρ', C', s, f4.trans f, h⟩, fun ρ' C' σ' G' H' h s f => eo.nx ρ' C' σ' G' H' h s ((f1.trans f4).trans f), fun ρ' C' σ' G' H' h s f => ⟨hlt, G', ρ', C', s, f4.trans f, h⟩, eo.rt⟩
  · have e : i = ds.length := by omega
    subst e
    rw [List.drop_length] at w
    exact .inl ⟨i1 (Nat.le_refl _), eo.nx _ _ _ _ _ w s2 (f1.trans f2)⟩
theorem ls_while {w : WX} {wb : Ro → Cs → En → Prop} (hp : PassesOwn (model X.prog X.w) X.A X.env X.xe) (hc : PT X e (LT T R w.tst)) (hb : PSs X as (LS T R wb)) : PS X (.While e as [] pos) (LS T R fun ρ C E => whileW w.tst wb ρ C E) := by
  refine PSi (ps_while hp hc hb) fun D σ H ⟨G, ρ, C, E, s, v, eo⟩ => ?_
  obtain ⟨I, ⟨m0, i0⟩, turn⟩ := v
  refine ⟨fun m σ' H' => ∃ G2 ρ2 C2, Stt T R G2 H' σ' ρ2 C2 ∧ Fr G H C G2 H' C2 ∧ I m ρ2 C2, ⟨m0, G, ρ, C, s, Fr.refl, i0⟩, ?_⟩
  rintro m σ' H' ⟨G2, ρ2, C2, s2, f2, i2⟩
  refine ⟨G2, ρ2, C2, _, s2, turn m ρ2 C2 i2, fun k ρ3 C3 G3 H3 h3 s3 f3 => ?_⟩
  cases k with
  | true =>
    rw [if_pos rfl]
    refine ⟨fun σ' H' => ∃ m', m' < m ∧ ∃ G2 ρ2 C2, Stt T R G2 H' σ' ρ2 C2 ∧ Fr G H C G2 H' C2 ∧ I m' ρ2 C2, fun σ' H' h => h, G3, ρ3, C3, { E with nx := fun ρ2 C2 => ∃ m', m' < m ∧ I m' ρ2 C2, ct := fun ρ2 C2 => ∃ m', m' < m ∧ I m' ρ2 C2, bk := E.nx }, s3, h3, ?_⟩
    have f4 := f2.trans f3
    exact ⟨fun ρ' C' σ' G' H' ⟨m', hm, h⟩ s f => ⟨m', hm, G', ρ', C', s, f4.trans f, h⟩, fun ρ' C' σ' G' H' h s f => eo.nx ρ' C' σ' G' H' h s (f4.trans f), fun ρ' C' σ' G' H' ⟨m', hm, h⟩ s f => ⟨m', hm, G', ρ', C', s, f4.trans f, h⟩, eo.rt⟩
  | false =>
    rw [if_neg (by decide)]
    exact eo.nx _ _ _ _ _ h3 s3 (f2.trans f3)
end
end Mp

set_option Elab.async false
set_option linter.all false
set_option maxRecDepth 100000
set_option maxHeartbeats 4000000
/-! Mp, part I: the check that a text is of the small syntax (expressions), and that such a text does what is wanted. -/
namespace Mp
open PySem PySem.Spec L2

/-! ### tables -/
/-- a def: its name, its kind (0 a function, 1 a method, 2 a property, 3 an __init__, 4 a def that is called otherwise), its class, its parameters, how many of them have the default (), its level -/
structure DfS where
  x : Str
  k : Nat
  c : Nat
  ps : List Str
  nd : Nat
  lv : Nat
structure ClS where
  x : Str
  fl : List Str
/-- a call by keywords: of which def, how many by place, the names, where each parameter stands among them -/
structure KwS where
  f : Nat
  n : Nat
  ks : List Str
  pm : List Nat
structure Sy where
  dfs : List DfS
  cls : List ClS
  ivs : List (Str × Int)
  free : List Str
  kws : List KwS := []

/-! ### shapes -/
def isStar : Expr → Bool
  | .Starred _ _ => true
  | _ => false
def noStars : List Expr → Bool
  | [] => true
  | e :: es => !isStar e && noStars es
def baseB : Expr → Bool
  | .Call (.Name _ _) [] [] _ => false
  | _ => true
def isSet : Expr → Bool
  | .Set _ _ _ => true
  | _ => false
def isSl : Expr → Bool
  | .Slice _ _ _ _ => true
  | _ => false
def isComp : Expr → Bool
  | .ListComp _ _ _ _ => true
  | .SetComp _ _ _ _ => true
  | .DictComp _ _ _ _ _ => true
  | _ => false
/-- a test that is asked by its value -/
def plainT : Expr → Bool
  | .UnaryOp .Not _ _ => false
  | .BoolOp _ _ _ => false
  | .IfExp _ _ _ _ => false
  | .Compare _ _ _ _ => false
  | _ => true
theorem star_eq {e : Expr} {es : List Expr} {env : Env} (h : isStar e = false) : starEach (e :: es) env = (false, eval e env) :: starEach es env := by
  cases e <;> first | rfl | cases h
theorem nostar_any {env : Env} {pos : Pos} : ∀ {es : List Expr}, noStars es = true → (backTo pos (starEach es env)).any (·.1) = false
  | [], _ => rfl
  | e :: es, h => by
    have h' : (!isStar e && noStars es) = true := h
    rw [Bool.and_eq_true, Bool.not_eq_true'] at h'
    rw [star_eq h'.1]
    show (false || (backTo pos (starEach es env)).any (·.1)) = false
    rw [nostar_any h'.2]
    rfl
theorem nostar_all {env : Env} {pos : Pos} : ∀ {es : List Expr}, noStars es = true → (backTo pos (starEach es env)).all (fun x => !x.1) = true
  | [], _ => rfl
  | e :: es, h => by
    have h' : (!isStar e && noStars es) = true := h
    rw [Bool.and_eq_true, Bool.not_eq_true'] at h'
    rw [star_eq h'.1]
    show (true && (backTo pos (starEach es env)).all (fun x => !x.1)) = true
    rw [nostar_all h'.2]
    rfl
theorem base_eq {e : Expr} {f : Str} {env : Env} (h : baseB e = true) : attributeBase e f env (eval e env) = eval e env := by
  cases e with
  | Call g xs ks p =>
    cases g with
    | Name y q =>
      cases xs with
      | nil =>
        cases ks with
        | nil => cases h
        | cons k ks => rfl
      | cons x xs => rfl
    | _ => rfl
  | _ => rfl
theorem plain_eq {e : Expr} {env : Env} (h : plainT e = true) : ∀ whole, isTrue e env whole = (do let v ← whole; standAt e.pos; holding [v] (truthy v)) := by
  intro whole
  cases e with
  | UnaryOp op x p => cases op <;> first | rfl | cases h
  | BoolOp => cases h
  | IfExp => cases h
  | Compare => cases h
  | _ => rfl
theorem ix_eq {b : Expr} (h : isSl b = false) : PlainIx b := by
  intro o i
  cases b <;> first | rfl | cases h
theorem set_eq {e : Expr} {env : Env} (h : isSet e = false) : ∀ x, foldedSetIterable e env x = pure x := by
  intro x
  cases e <;> first | rfl | cases h
theorem mark_eq {op : CmpOp} {e : Expr} (h : isSet e = false) : behindInMarks op e = false := by
  cases e <;> first | rfl | cases h
theorem sw_eq {e : Expr} {t : Option Expr} {l : Nat} {env : Env} (h : isComp e = false) : swapsWith e t l env = pure false := by
  cases e <;> first | rfl | cases h
/-- a call of a method's text -/
theorem meth_eq {o : Expr} {m : Str} {apos pos : Pos} {es : List Expr} {env : Env} (hb : baseB o = true) (hs : noStars es = true) (hn : es.length < 30) (hl : (apos.endLine == pos.line) = true) :
    eval (.Call (.Attribute o m apos) es [] pos) env = (do
      let ov ← eval o env
      standAt apos.atName
      let (f, first) ← holding [ov] (getMethod ov m (do return (← importBound o env).getD true))
      callWith pos f first (backTo pos (starEach es env)) (backToKw pos (keywordEach [] env))) := by
  have hf : methodCallForm (es.length + ([] : List Keyword).length) (backTo pos (starEach es env)) (backToKw pos (keywordEach [] env)) = true := by
    unfold methodCallForm
    rw [nostar_all hs]
    simp [backToKw, keywordEach]
    omega
  show (do
    let ov ← attributeBase o m env (eval o env)
    standAt apos.atName
    methodCall o m apos pos env ov (es.length + ([] : List Keyword).length) (backTo pos (starEach es env)) (backToKw pos (keywordEach [] env))) = _
  rw [base_eq hb]
  unfold methodCall
  rw [hf]
  unfold methodCallPos
  rw [hl]
  rfl

/-! ### the check -/
def visB (sc : Scope) (x : Str) : Bool := match sc.names.lookup x with
  | some .local => true
  | some .cell => true
  | some .free => true
  | _ => false
def glB (sc : Scope) (x : Str) : Bool := decide (sc.names.lookup x = some .globalImplicit)
def nmB (x : Str) : Bool := !(x == ("__debug__" : Str))
def locB (cf : Bool) (sc : Scope) (x : Str) : Bool := match sc.names.lookup x with
  | some .local => true
  | some .cell => cf
  | _ => false
def cstB : Const → Const → Bool
  | .none, .none => true
  | .bool a, .bool b => a == b
  | .int a, .int b => decide (a = b)
  | .str a, .str b => decide (a = b)
  | _, _ => false
def biTy : String → Bool
  | "int" => true
  | "str" => true
  | "tuple" => true
  | "list" => true
  | _ => false
def biFn : String → Bool
  | "len" => true
  | "abs" => true
  | "max" => true
  | "min" => true
  | "sum" => true
  | "all" => true
  | "any" => true
  | "divmod" => true
  | "sorted" => true
  | "repr" => true
  | _ => false
def tyNm : String → Bool
  | "int" => true
  | "str" => true
  | "tuple" => true
  | "list" => true
  | "bool" => true
  | "dict" => true
  | _ => false
def bmB (t m : String) : Bool := (t == "str" && m == "split") || (t == "str" && m == "join") || (t == "list" && m == "index")
def isStarM : ME → Bool
  | .star _ => true
  | _ => false
/-- a free name of the module, a builtin -/
def freeB (S : Sy) (sc : Scope) (x : Str) : Bool := S.free.contains x && glB sc x
def dfB (S : Sy) (lv f : Nat) (p : DfS → Bool) : Bool := match S.dfs[f]? with
  | some d => decide (d.lv ≤ lv) && p d
  | none => false
def clB (S : Sy) (c : Nat) (p : ClS → Bool) : Bool := match S.cls[c]? with
  | some s => p s
  | none => false
/-- the names that a comprehension keeps in cells of its own -/
def cellP (scope : Scope) (x : Str) : Bool := scope.names.lookup x == some .cell
def ckTg (N : List Str) (p : Str → Bool) (sc : Scope) : MT → Expr → Bool
  | .nm i, .Name x _ => decide (N[i]? = some x) && locB (p x) sc x
  | .tp is, .Tuple es _ _ => go is es
  | _, _ => false
where go : List Nat → List Expr → Bool
  | [], [] => true
  | i :: is, .Name x _ :: es => decide (N[i]? = some x) && locB (p x) sc x && go is es
  | _, _ => false
mutual
def ckE (S : Sy) (lv : Nat) (N : List Str) (cf : Bool) (sc : Scope) : ME → Expr → Bool
  | .var i _, e => match e with
    | .Name x _ => decide (N[i]? = some x) && visB sc x && nmB x && !(x == ("__classdict__" : Str))
    | _ => false
  | .cst c, e => match e with
    | .Constant c' _ _ => cstB c c'
    | _ => false
  | .gint x i, e => match e with
    | .Name y _ => decide (x = y) && glB sc y && nmB y && decide (S.ivs.lookup x = some i)
    | _ => false
  | .bin op a b, e => match e with
    | .BinOp l o r _ => decide (op = o) && ckE S lv N cf sc a l && ckE S lv N cf sc b r
    | _ => false
  | .neg a, e => match e with
    | .UnaryOp .USub x _ => ckE S lv N cf sc a x
    | _ => false
  | .not a, e => match e with
    | .UnaryOp .Not x _ => ckE S lv N cf sc a x
    | _ => false
  | .bo op es, e => match e with
    | .BoolOp o xs _ => decide (op = o) && decide (0 < es.length) && ckB S lv N cf sc es xs
    | _ => false
  | .cmp op a b, e => match e with
    | .Compare l [o] [r] _ => decide (op = o) && ckE S lv N cf sc a l && ckE S lv N cf sc b r && !isSet r
    | _ => false
  | .chain op op2 a b c, e => match e with
    | .Compare l [o, o2] [r, r2] _ => decide (op = o) && decide (op2 = o2) && ckE S lv N cf sc a l && ckE S lv N cf sc b r && ckE S lv N cf sc c r2 && !isSet r2
    | _ => false
  | .ite t a b, e => match e with
    | .IfExp c x y _ => ckE S lv N cf sc t c && ckE S lv N cf sc a x && ckE S lv N cf sc b y
    | _ => false
  | .tup es, e => match e with
    | .Tuple xs _ _ => ckL S lv N cf sc es xs
    | _ => false
  | .lst _ es, e => match e with
    | .List xs _ => ckL S lv N cf sc es xs
    | _ => false
  | .star _, _ => false
  | .fld a c i, e => match e with
    | .Attribute o m _ => ckE S lv N cf sc a o && baseB o && clB S c fun s => decide (s.fl[i]? = some m)
    | _ => false
  | .prop a c f, e => match e with
    | .Attribute o m _ => ckE S lv N cf sc a o && baseB o && dfB S (lv - 1) f fun d => decide (0 < lv) && decide (d.k = 2) && decide (d.c = c) && decide (d.x = m) && clB S c fun _ => true
    | _ => false
  | .call f es nd, e => match e with
    | .Call (.Name x _) xs [] _ => glB sc x && nmB x && noStars xs && ckL S lv N cf sc es xs && dfB S lv f fun d => decide (d.k = 0) && decide (d.x = x) && decide (nd ≤ d.nd)
    | _ => false
  | .callk f es ks zs pm, e => match e with
    | .Call (.Name x _) xs ws _ => glB sc x && nmB x && noStars xs && ckL S lv N cf sc es xs && ckK S lv N cf sc ks zs ws && (dfB S lv f fun d => decide (d.k = 0) && decide (d.x = x)) && (S.kws.any fun q => decide (q.f = f) && decide (q.n = es.length) && decide (q.ks = ks) && decide (q.pm = pm)) && decide (es.length = xs.length)
    | _ => false
  | .make _ c f es nd, e => match e with
    | .Call (.Name x _) xs [] _ => glB sc x && nmB x && noStars xs && ckL S lv N cf sc es xs && decide (0 < lv) && (dfB S (lv - 1) f fun d => decide (d.k = 3) && decide (d.c = c) && decide (nd ≤ d.nd)) && clB S c fun s => decide (s.x = x)
    | _ => false
  | .makek _ c f es ks zs pm, e => match e with
    | .Call (.Name x _) xs ws _ => glB sc x && nmB x && noStars xs && ckL S lv N cf sc es xs && ckK S lv N cf sc ks zs ws && decide (0 < lv) && (dfB S (lv - 1) f fun d => decide (d.k = 3) && decide (d.c = c)) && (S.kws.any fun q => decide (q.f = f) && decide (q.n = es.length + 1) && decide (q.ks = ks) && decide (q.pm = 0 :: pm.map (· + 1))) && decide (es.length = xs.length) && clB S c fun s => decide (s.x = x)
    | _ => false
  | .ocmp eq a b c f, e => match e with
    | .Compare l [o] [r] _ => decide (eqOp eq = o) && ckE S lv N cf sc a l && ckE S lv N cf sc b r && !isSet r && (clB S c fun _ => true) && decide (2 ≤ lv) && dfB S (lv - 2) f fun d => decide (d.k = 1) && decide (d.c = c) && decide (d.x = ("__eq__" : Str))
    | _ => false
  | .ostr rp a c f, e => match e with
    | .Call (.Name x _) [y] [] _ => (match rp with
      | true => decide (x = ("repr" : Str)) && freeB S sc x && !isStar y && ckE S lv N cf sc a y && (clB S c fun _ => true) && decide (2 ≤ lv) && dfB S (lv - 2) f fun d => decide (d.k = 1) && decide (d.c = c) && decide (d.x = ("__repr__" : Str))
      | false => decide (x = ("str" : Str)) && freeB S sc x && !isStar y && ckE S lv N cf sc a y && (clB S c fun _ => true) && decide (2 ≤ lv) && dfB S (lv - 2) f fun d => decide (d.k = 1) && decide (d.c = c) && decide (d.x = ("__str__" : Str)))
    | _ => false
  | .obool a c, e => match e with
    | .Call (.Name x _) [y] [] _ => decide (x = ("bool" : Str)) && freeB S sc x && !isStar y && ckE S lv N cf sc a y && clB S c fun _ => true
    | _ => false
  | .sstr a, e => match e with
    | .Call (.Name x _) [y] [] _ => decide (x = ("str" : Str)) && freeB S sc x && !isStar y && ckE S lv N cf sc a y
    | _ => false
  | .meth a c f es, e => match e with
    | .Call (.Attribute o m apos) xs [] pos => ckE S lv N cf sc a o && baseB o && noStars xs && decide (xs.length < 30) && (apos.endLine == pos.line) && ckL S lv N cf sc es xs &&
        dfB S lv f fun d => decide (d.k = 1) && decide (d.c = c) && decide (d.x = m) && clB S c fun s => decide (m ∉ s.fl)
    | _ => false
  | .bi f es, e => match e with
    | .Call (.Name x _) (y :: xs) [] _ => (biTy f || biFn f) && decide (x = (f : Str)) && freeB S sc x && noStars (y :: xs) && ckL S lv N cf sc es (y :: xs)
    | _ => false
  | .isT a t, e => match e with
    | .Call (.Name x _) [y, .Name z _] [] _ => decide (x = ("isinstance" : Str)) && freeB S sc x && tyNm t && decide (z = (t : Str)) && freeB S sc z && ckE S lv N cf sc a y && !isStar y
    | _ => false
  | .isC a c, e => match e with
    | .Call (.Name x _) [y, .Name z _] [] _ => decide (x = ("isinstance" : Str)) && freeB S sc x && glB sc z && nmB z && ckE S lv N cf sc a y && !isStar y && clB S c fun s => decide (s.x = z)
    | _ => false
  | .bm a t m es, e => match e with
    | .Call (.Attribute o n apos) (y :: xs) [] pos => bmB t m && decide (n = (m : Str)) && ckE S lv N cf sc a o && baseB o && noStars (y :: xs) && decide (xs.length < 20) && (apos.endLine == pos.line) && ckL S lv N cf sc es (y :: xs)
    | _ => false
  | .app a b, e => match e with
    | .Call (.Attribute o n apos) [y] [] pos => decide (n = ("append" : Str)) && ckE S lv N cf sc a o && baseB o && !isStar y && (apos.endLine == pos.line) && ckE S lv N cf sc b y
    | _ => false
  | .idx a b, e => match e with
    | .Subscript x y _ => ckE S lv N cf sc a x && ckE S lv N cf sc b y && !isSl y
    | _ => false
  | .slice a lo hi, e => match e with
    | .Subscript x (.Slice l h none _) _ => ckE S lv N cf sc a x && ckO S lv N cf sc lo l && ckO S lv N cf sc hi h
    | _ => false
  | .sset a, e => match e with
    | .Call (.Name x _) [.Call (.Name y _) [z] [] _] [] _ => decide (x = ("sorted" : Str)) && freeB S sc x && decide (y = ("set" : Str)) && freeB S sc y && !isStar z && ckE S lv N cf sc a z
    | _ => false
  | .dnew, e => match e with
    | .Dict [] [] _ => true
    | _ => false
  | .sstep a b, e => match e with
    | .Subscript x (.Slice none none (some k) _) _ => ckE S lv N cf sc a x && ckE S lv N cf sc b k
    | _ => false
  | .rev a, e => match e with
    | .Subscript x (.Slice none none (some (.UnaryOp .USub (.Constant (.int i) _ _) _)) _) _ => decide (i = 1) && ckE S lv N cf sc a x
    | _ => false
  | .comp _ elt tg it cs own, e => match e with
    | .ListComp x [⟨t, i, ifs, ia⟩] scope _ => decide (ia = 0) && decide (sc.kind = .function) && blkC N sc scope own && ((mtIx tg).all fun i => (own.map (·.2)).contains i) && !isSet i && ckI S lv N cf sc it t i && ckTg N (cellP scope) (relS scope sc) tg t && ckT S lv N false (relS scope sc) cs ifs && ckE S lv N false (relS scope sc) elt x
    | _ => false
  | .dcomp _ kx vx tg it cs own, e => match e with
    | .DictComp y x [⟨t, i, ifs, ia⟩] scope _ => decide (ia = 0) && decide (sc.kind = .function) && blkC N sc scope own && ((mtIx tg).all fun i => (own.map (·.2)).contains i) && !isSet i && ckI S lv N cf sc it t i && ckTg N (cellP scope) (relS scope sc) tg t && ckT S lv N false (relS scope sc) cs ifs && ckE S lv N false (relS scope sc) kx y && ckE S lv N false (relS scope sc) vx x
    | _ => false
  | .fstr es, e => match e with
    | .JoinedStr xs _ => decide (2 ≤ xs.length) && ckB S lv N cf sc es xs
    | _ => false
  | .fmt a, e => match e with
    | .FormattedValue x cv none _ => decide (cv = -1) && ckE S lv N cf sc a x
    | _ => false
/-- a list of expressions, stars allowed -/
def ckL (S : Sy) (lv : Nat) (N : List Str) (cf : Bool) (sc : Scope) : List ME → List Expr → Bool
  | [], xs => match xs with
    | [] => true
    | _ => false
  | m :: es, xs => match xs with
    | [] => false
    | x :: xs => (match m with
      | .star a => match x with
        | .Starred y _ => ckE S lv N cf sc a y
        | _ => false
      | m => ckE S lv N cf sc m x && !isStar x) && ckL S lv N cf sc es xs
def ckK (S : Sy) (lv : Nat) (N : List Str) (cf : Bool) (sc : Scope) (ks : List Str) : List ME → List Keyword → Bool
  | [], ws => match ws with
    | [] => ks.isEmpty
    | _ => false
  | m :: es, ws => match ws with
    | ⟨some k, x, _⟩ :: ws => (match ks with
      | k' :: ks' => decide (k = k') && ckE S lv N cf sc m x && ckK S lv N cf sc ks' es ws
      | [] => false)
    | _ => false
/-- a list of expressions, no stars -/
def ckB (S : Sy) (lv : Nat) (N : List Str) (cf : Bool) (sc : Scope) : List ME → List Expr → Bool
  | [], xs => match xs with
    | [] => true
    | _ => false
  | m :: es, xs => match xs with
    | [] => false
    | x :: xs => ckE S lv N cf sc m x && ckB S lv N cf sc es xs
def ckT (S : Sy) (lv : Nat) (N : List Str) (cf : Bool) (sc : Scope) : List ME → List Expr → Bool
  | [], xs => match xs with
    | [] => true
    | _ => false
  | m :: _, xs => match xs with
    | [x] => ckE S lv N cf sc m x
    | _ => false
def ckO (S : Sy) (lv : Nat) (N : List Str) (cf : Bool) (sc : Scope) : Option ME → Option Expr → Bool
  | none, e => match e with
    | none => true
    | _ => false
  | some m, e => match e with
    | some x => ckE S lv N cf sc m x
    | _ => false
def ckI (S : Sy) (lv : Nat) (N : List Str) (cf : Bool) (sc : Scope) : MI → Expr → Expr → Bool
  | .it a, _, e => ckE S lv N cf sc a e
  | .rng es, _, e => match e with
    | .Call (.Name x _) xs [] _ => decide (x = ("range" : Str)) && freeB S sc x && noStars xs && (xs.length == 1 || xs.length == 2 || xs.length == 3) && ckB S lv N cf sc es xs
    | _ => false
  | .enum a, t, e => match t with
    | .Tuple _ _ _ => match e with
      | .Call (.Name x _) [y] [] _ => decide (x = ("enumerate" : Str)) && freeB S sc x && !isStar y && ckE S lv N cf sc a y
      | _ => false
    | _ => false
  | .zip a b, t, e => match t with
    | .Tuple _ _ _ => match e with
      | .Call (.Name x _) [y, z] [] _ => decide (x = ("zip" : Str)) && freeB S sc x && !isStar y && !isStar z && ckE S lv N cf sc a y && ckE S lv N cf sc b z
      | _ => false
    | _ => false
end

/-! ### what is known of the module, of a body's context -/
structure Fct (T : Tb) (S : Sy) : Prop where
  glo : ∀ f d, S.dfs[f]? = some d → d.k = 0 → T.mg d.x = some (.ref (T.fa f))
  keep : ∀ f d, S.dfs[f]? = some d → d.k = 0 → PySem.W.keepIn T.K (.ref (T.fa f)) = true
  dfl : ∀ f d j, S.dfs[f]? = some d → j ≤ d.nd → ∃ dvs ds, Dfs T (T.fd f) d.ps j dvs ds ∧ (j = 0 → dvs = [] ∧ ds = [])
  kw : ∀ q ∈ S.kws, ∀ d, S.dfs[q.f]? = some d → KwB T.K (T.fd q.f) d.ps q.n q.ks q.pm
  meth : ∀ f d, S.dfs[f]? = some d → d.k = 1 → Meth T.K (T.cl d.c) d.x (T.fa f)
  prop : ∀ f d, S.dfs[f]? = some d → d.k = 2 → ∃ p, PropOf T.K (T.cl d.c) d.x p (T.fa f)
  mkr : ∀ f d, S.dfs[f]? = some d → d.k = 3 → Mk T.K (T.cl d.c) (T.fa f)
  cl : ∀ c s, S.cls[c]? = some s → Cls T.K (T.cl c) ∧ T.mg s.x = some (.ref (T.cl c)) ∧ T.fl c = s.fl ∧ s.fl.Nodup ∧ s.fl.length < 1000
  noat : ∀ c s m, S.cls[c]? = some s → m ∈ s.fl → NoAttr T.K (T.cl c) m
  isc : ∀ c s, S.cls[c]? = some s → IsC T c
  spc : ∀ c s, S.cls[c]? = some s → SpC T c
  ivs : ∀ x i, S.ivs.lookup x = some i → ∃ t, T.mg x = some (.int i t)
  free : ∀ x ∈ S.free, T.mg x = none
structure Cok (T : Tb) (S : Sy) (Γ : Specs) (lv : Nat) (N : List Str) (cf : Bool) (sc : Scope) (X : Cx) (R : Rg) : Prop where
  fct : Fct T S
  hK : X.K = T.K
  hmg : X.mg = T.mg
  hN : X.N = N
  hsc : X.env.scope = sc
  calm : X.calm = true
  nd : N.Nodup
  fn : cf = true → ∀ x, X.fn x = true
  room : Room lv X.A
  tk : Takes X R.W
  ok : RgOk T R
  fok : ∀ f d, S.dfs[f]? = some d → d.lv ≤ lv → FnOk X.prog X.w X.K X.mg X.base (L2.CX X.prog X.w) d.lv (T.fa f) (T.fd f) d.ps (spL T (Γ f) d.ps.length)
  sl : ∀ f d, S.dfs[f]? = some d → ∀ ds C P PX, Γ f ds C P PX → ds.length = d.ps.length
section
variable {T : Tb} {S : Sy} {Γ : Specs} {lv : Nat} {N : List Str} {cf : Bool} {sc : Scope} {X : Cx} {R : Rg}
theorem Cok.blk (k : Cok T S Γ lv N cf sc X R) (s : Shared) (H : Hp) (C : Addr) (cl : List (Str × Addr)) (fp : List Addr) (scope : Scope) : Cok T S Γ lv N false (relS scope sc) (X.blk s H scope (compEnvC scope cl C X.env) fp) Rb :=
  ⟨k.fct, k.hK, k.hmg, k.hN, by rw [← k.hsc]; rfl, k.calm, k.nd, (fun z => by cases z), k.room, takes0, rb_ok, k.fok, k.sl⟩
theorem Cok.vis (k : Cok T S Γ lv N cf sc X R) {x : Str} (h : visB sc x = true) : Vis X.env.scope x := by
  unfold visB at h
  rw [← k.hsc] at h
  cases e : X.env.scope.names.lookup x with
  | none => rw [e] at h; cases h
  | some q =>
    rw [e] at h
    cases q with
    | «local» => exact .inl e
    | cell => exact .inr (.inl e)
    | free => exact .inr (.inr e)
    | _ => cases h
theorem Cok.gl (k : Cok T S Γ lv N cf sc X R) {x : Str} (h : glB sc x = true) : Gl X x := by
  have e := of_decide_eq_true h
  rw [← k.hsc] at e
  exact e
theorem Cok.locP (k : Cok T S Γ lv N cf sc X R) {x : Str} {b : Bool} (hb : b = true → X.fn x = true) (h : locB b sc x = true) : Loc X.env.scope x ∧ (X.fn x = true ∨ X.env.scope.names.lookup x = some .local) := by
  unfold locB at h
  rw [← k.hsc] at h
  cases e : X.env.scope.names.lookup x with
  | none => rw [e] at h; cases h
  | some q =>
    rw [e] at h
    cases q with
    | «local» => exact ⟨.inl e, .inr rfl⟩
    | cell => exact ⟨.inr e, .inl (hb h)⟩
    | _ => cases h
theorem Cok.loc (k : Cok T S Γ lv N cf sc X R) {x : Str} (h : locB cf sc x = true) : Loc X.env.scope x ∧ (X.fn x = true ∨ X.env.scope.names.lookup x = some .local) := k.locP (fun e => k.fn e x) h
theorem nm_eq {x : Str} (h : nmB x = true) : (x == ("__debug__" : Str)) = false := by
  unfold nmB at h
  rwa [Bool.not_eq_true'] at h
theorem Cok.free (k : Cok T S Γ lv N cf sc X R) {x : Str} (h : freeB S sc x = true) : Gl X x ∧ X.mg x = none := by
  unfold freeB at h
  rw [Bool.and_eq_true] at h
  refine ⟨k.gl h.2, ?_⟩
  rw [k.hmg]
  exact k.fct.free x (by simpa using h.1)
theorem Cok.un (k : Cok T S Γ lv N cf sc X R) : X.A.units + 65 < cLine := by have := k.room.un; omega
theorem dfB_of {f : Nat} {p : DfS → Bool} (h : dfB S lv f p = true) : ∃ d, S.dfs[f]? = some d ∧ d.lv ≤ lv ∧ p d = true := by
  unfold dfB at h
  cases e : S.dfs[f]? with
  | none => rw [e] at h; cases h
  | some d =>
    rw [e] at h
    have h' : (decide (d.lv ≤ lv) && p d) = true := h
    rw [Bool.and_eq_true, decide_eq_true_eq] at h'
    exact ⟨d, rfl, h'.1, h'.2⟩
theorem clB_of {c : Nat} {p : ClS → Bool} (h : clB S c p = true) : ∃ s, S.cls[c]? = some s ∧ p s = true := by
  unfold clB at h
  cases e : S.cls[c]? with
  | none => rw [e] at h; cases h
  | some s =>
    rw [e] at h
    exact ⟨s, rfl, h⟩
theorem tg_go {p : Str → Bool} (k : Cok T S Γ lv N cf sc X R) (hp : ∀ x, p x = true → X.fn x = true) : ∀ {is : List Nat} {es : List Expr}, ckTg.go N p sc is es = true → PGs X es (gIs is) ∧ (assignEach es X.env).length = is.length ∧ (assignEach es X.env).findIdx? (·.1) = none
  | [], [], _ => ⟨pgs_nil, rfl, rfl⟩
  | [], e :: es, h => by unfold ckTg.go at h; cases h
  | i :: is, [], h => by unfold ckTg.go at h; cases h
  | i :: is, e :: es, h => by
    cases e with
    | Name x ps =>
      have h' : (decide (N[i]? = some x) && locB (p x) sc x && ckTg.go N p sc is es) = true := h
      simp only [Bool.and_eq_true, decide_eq_true_eq] at h'
      obtain ⟨⟨h1, h2⟩, h3⟩ := h'
      obtain ⟨l1, l2⟩ := k.locP (hp x) h2
      obtain ⟨g1, g2, g3⟩ := tg_go k hp h3
      refine ⟨pgs_cons (pg_name (by rw [k.hN]; exact k.nd) (by rw [k.hN]; exact h1) l1 l2) g1, ?_, ?_⟩
      · show (assignEach es X.env).length + 1 = is.length + 1
        rw [g2]
      · show List.findIdx? (·.1) ((false, assign (.Name x ps) X.env) :: assignEach es X.env) = none
        rw [List.findIdx?_cons, g3]
        rfl
    | _ => unfold ckTg.go at h; cases h
theorem tg_ok {p : Str → Bool} (k : Cok T S Γ lv N cf sc X R) (hp : ∀ x, p x = true → X.fn x = true) {mt : MT} {tg : Expr} (h : ckTg N p sc mt tg = true) : PG X tg (LG T R mt) := by
  cases mt with
  | nm i =>
    cases tg with
    | Name x ps =>
      have h' : (decide (N[i]? = some x) && locB (p x) sc x) = true := h
      simp only [Bool.and_eq_true, decide_eq_true_eq] at h'
      obtain ⟨l1, l2⟩ := k.locP (hp x) h'.2
      exact lg_nm (pg_name (by rw [k.hN]; exact k.nd) (by rw [k.hN]; exact h'.1) l1 l2)
    | _ => unfold ckTg at h; cases h
  | tp is =>
    cases tg with
    | Tuple es kk ps =>
      obtain ⟨g1, g2, g3⟩ := tg_go k hp (show ckTg.go N p sc is es = true from h)
      exact lg_tp k.hK k.calm g1 g2 g3
    | _ => unfold ckTg at h; cases h
end
end Mp

set_option Elab.async false
set_option linter.all false
set_option maxRecDepth 100000
set_option maxHeartbeats 4000000
/-! Mp, part J: what the check lets pass does what is wanted (expressions). -/
namespace Mp
open PySem PySem.Spec L2

section
variable {T : Tb} {S : Sy} {Γ : Specs} {lv : Nat} {N : List Str} {cf : Bool} {sc : Scope} {X : Cx} {R : Rg}
theorem both {v : Ro → Cs → KE → XD → Prop} {e : Expr} (k : Cok T S Γ lv N cf sc X R) (h : PE X e (LE T R v)) (hp : plainT e = true) : PE X e (LE T R (plainX v).val) ∧ PT X e (LT T R (plainX v).tst) := ⟨h, lt_plain k.hK h (plain_eq hp)⟩
theorem ff {P : Prop} {b : Bool} (h : b = true) (e : b = false) : P := by rw [e] at h; cases h
theorem bi_ty {f : String} (h : biTy f = true) (hK : X.K = T.K) : bootBuiltins (f : Str) = some (.type f) ∧ ((f : Str) ≠ "__name__") ∧ (((f : Str)) == ("__debug__" : Str)) = false ∧ CallR X (.type f) (rBi T f) := by
  unfold biTy at h
  split at h
  · exact ⟨by rfl, by decide +kernel, by decide +kernel, int_ok⟩
  · exact ⟨by rfl, by decide +kernel, by decide +kernel, str_ok⟩
  · exact ⟨by rfl, by decide +kernel, by decide +kernel, tuple_ok hK⟩
  · exact ⟨by rfl, by decide +kernel, by decide +kernel, list_ok hK⟩
  · cases h
theorem bi_fn {f : String} (h : biFn f = true) (hK : X.K = T.K) (hc : X.calm = true) (hg : X.A.guards = some []) (hu : X.A.units + 65 < cLine) : bootBuiltins (f : Str) = some (.builtin f) ∧ ((f : Str) ≠ "__name__") ∧ (((f : Str)) == ("__debug__" : Str)) = false ∧ CallR X (.builtin f) (rBi T f) := by
  unfold biFn at h
  split at h
  · exact ⟨by rfl, by decide +kernel, by decide +kernel, len_ok hK⟩
  · exact ⟨by rfl, by decide +kernel, by decide +kernel, abs_ok⟩
  · exact ⟨by rfl, by decide +kernel, by decide +kernel, max_ok hc⟩
  · exact ⟨by rfl, by decide +kernel, by decide +kernel, min_ok hK hc hu⟩
  · exact ⟨by rfl, by decide +kernel, by decide +kernel, sum_ok hK hc⟩
  · exact ⟨by rfl, by decide +kernel, by decide +kernel, all_ok hK hc⟩
  · exact ⟨by rfl, by decide +kernel, by decide +kernel, any_ok hK hc⟩
  · exact ⟨by rfl, by decide +kernel, by decide +kernel, divmod_ok⟩
  · exact ⟨by rfl, by decide +kernel, by decide +kernel, sorted_ok⟩
  · exact ⟨by rfl, by decide +kernel, by decide +kernel, repr_ok hK hg hu⟩
  · cases h
theorem ty_nm {f : String} (h : tyNm f = true) : bootBuiltins (f : Str) = some (.type f) ∧ ((f : Str) ≠ "__name__") ∧ (((f : Str)) == ("__debug__" : Str)) = false := by
  unfold tyNm at h
  split at h
  · exact ⟨by rfl, by decide +kernel, by decide +kernel⟩
  · exact ⟨by rfl, by decide +kernel, by decide +kernel⟩
  · exact ⟨by rfl, by decide +kernel, by decide +kernel⟩
  · exact ⟨by rfl, by decide +kernel, by decide +kernel⟩
  · exact ⟨by rfl, by decide +kernel, by decide +kernel⟩
  · exact ⟨by rfl, by decide +kernel, by decide +kernel⟩
  · cases h
theorem wpL_cons {m : ME} {es : List ME} (h : isStarM m = false) : wpL Γ (m :: es) = fun ρ C K xd => (wpX Γ m).val ρ C (fun x ρ1 C1 => wpL Γ es ρ1 C1 (fun ds ρ2 C2 => K (x :: ds) ρ2 C2) xd) xd := by
  cases m <;> first | rfl | cases h
theorem ckE_star {m : ME} {e : Expr} (h : ckE S lv N cf sc m e = true) : isStarM m = false := by
  cases m <;> first | rfl | exact ff h rfl
theorem cst_ok {c c' : Const} {kk : Nat} {pos : Pos} (h : cstB c c' = true) : PE X (.Constant c' kk pos) (LE T R fun ρ C K _ => K (cD c) ρ C) := by
  unfold cstB at h
  split at h
  · exact le_val pe_non fun _ => rfl
  · obtain rfl := eq_of_beq h
    exact le_val pe_bl fun _ => rfl
  · obtain rfl := of_decide_eq_true h
    exact le_val pe_int fun _ => rfl
  · obtain rfl := of_decide_eq_true h
    exact le_val pe_str fun _ => rfl
  · cases h
end
section
variable {T : Tb} {S : Sy} {Γ : Specs} {lv : Nat} {N : List Str}
mutual
theorem sdE : ∀ (m : ME) {cf : Bool} {sc : Scope} {X : Cx} {R : Rg} (k : Cok T S Γ lv N cf sc X R) {e : Expr}, ckE S lv N cf sc m e = true → PE X e (LE T R (wpX Γ m).val) ∧ PT X e (LT T R (wpX Γ m).tst)
  | .var i frz, cf, sc, X, R, k, e, h => by
    cases e with
    | Name x p =>
      have h' : (decide (N[i]? = some x) && visB sc x && nmB x && !(x == ("__classdict__" : Str))) = true := h
      simp only [Bool.and_eq_true, decide_eq_true_eq, Bool.not_eq_true'] at h'
      obtain ⟨⟨⟨h1, h2⟩, h3⟩, h4⟩ := h'
      exact both k (le_var (pe_var (by rw [k.hN]; exact h1) (k.vis h2) (nm_eq h3) h4)) rfl
    | _ => exact ff h rfl
  | .cst c, cf, sc, X, R, k, e, h => by
    cases e with
    | Constant c' j p => exact both k (cst_ok (show cstB c c' = true from h)) rfl
    | _ => exact ff h rfl
  | .gint x i, cf, sc, X, R, k, e, h => by
    cases e with
    | Name y p =>
      have h' : (decide (x = y) && glB sc y && nmB y && decide (S.ivs.lookup x = some i)) = true := h
      simp only [Bool.and_eq_true, decide_eq_true_eq] at h'
      obtain ⟨⟨⟨rfl, h2⟩, h3⟩, h4⟩ := h'
      obtain ⟨t, ht⟩ := k.fct.ivs x i h4
      exact both k (le_val (pe_glob (v := .int i) (k.gl h2) (by rw [k.hmg]; exact ht) ⟨t, rfl⟩ (nm_eq h3)) fun _ => rfl) rfl
    | _ => exact ff h rfl
  | .bin op a b, cf, sc, X, R, k, e, h => by
    cases e with
    | BinOp l o r p =>
      have h' : (decide (op = o) && ckE S lv N cf sc a l && ckE S lv N cf sc b r) = true := h
      simp only [Bool.and_eq_true, decide_eq_true_eq] at h'
      obtain ⟨⟨rfl, h2⟩, h3⟩ := h'
      exact both k (le_bin k.hK (sdE a k h2).1 (sdE b k h3).1) rfl
    | _ => exact ff h rfl
  | .neg a, cf, sc, X, R, k, e, h => by
    cases e with
    | UnaryOp op x p =>
      cases op with
      | USub => exact both k (le_neg (sdE a k (show ckE S lv N cf sc a x = true from h)).1) rfl
      | _ => exact ff h rfl
    | _ => exact ff h rfl
  | .not a, cf, sc, X, R, k, e, h => by
    cases e with
    | UnaryOp op x p =>
      cases op with
      | Not =>
        have q := sdE a k (show ckE S lv N cf sc a x = true from h)
        exact ⟨le_not k.hK q.1, lt_not q.2⟩
      | _ => exact ff h rfl
    | _ => exact ff h rfl
  | .bo op es, cf, sc, X, R, k, e, h => by
    cases e with
    | BoolOp o xs p =>
      have h' : (decide (op = o) && decide (0 < es.length) && ckB S lv N cf sc es xs) = true := h
      simp only [Bool.and_eq_true, decide_eq_true_eq] at h'
      obtain ⟨⟨rfl, h2⟩, h3⟩ := h'
      obtain ⟨q1, q2⟩ := sdBo es k op p h2 h3
      exact ⟨q1, q2.pt⟩
    | _ => exact ff h rfl
  | .cmp op a b, cf, sc, X, R, k, e, h => by
    cases e with
    | Compare l os rs p =>
      match os, rs, h with
      | [o], [r], h =>
        have h' : (decide (op = o) && ckE S lv N cf sc a l && ckE S lv N cf sc b r && !isSet r) = true := h
        simp only [Bool.and_eq_true, decide_eq_true_eq, Bool.not_eq_true'] at h'
        obtain ⟨⟨⟨rfl, h2⟩, h3⟩, h4⟩ := h'
        have q1 := (sdE a k h2).1
        have q2 := (sdE b k h3).1
        exact ⟨le_cmp k.hK k.un q1 q2 (mark_eq h4), lt_cmp k.hK k.un q1 q2 (mark_eq h4)⟩
      | [], _, h => exact ff h rfl
      | _ :: _ :: _, _, h => exact ff h rfl
      | [_], [], h => exact ff h rfl
      | [_], _ :: _ :: _, h => exact ff h rfl
    | _ => exact ff h rfl
  | .chain op op2 a b c, cf, sc, X, R, k, e, h => by
    cases e with
    | Compare l os rs p =>
      match os, rs, h with
      | [o, o2], [r, r2], h =>
        have h' : (decide (op = o) && decide (op2 = o2) && ckE S lv N cf sc a l && ckE S lv N cf sc b r && ckE S lv N cf sc c r2 && !isSet r2) = true := h
        simp only [Bool.and_eq_true, decide_eq_true_eq, Bool.not_eq_true'] at h'
        obtain ⟨⟨⟨⟨⟨rfl, rfl⟩, h2⟩, h3⟩, h5⟩, h4⟩ := h'
        have q1 := (sdE a k h2).1
        have q2 := (sdE b k h3).1
        have q3 := (sdE c k h5).1
        have hm : lastMarks [op, op2] [r, r2] = false := by
          show behindInMarks op2 r2 = false
          exact mark_eq h4
        exact ⟨le_chain k.hK k.un q1 q2 q3 hm, lt_chain k.hK k.un q1 q2 q3 hm⟩
      | [], _, h => exact ff h rfl
      | [_], _, h => exact ff h rfl
      | _ :: _ :: _ :: _, _, h => exact ff h rfl
      | [_, _], [], h => exact ff h rfl
      | [_, _], [_], h => exact ff h rfl
      | [_, _], _ :: _ :: _ :: _, h => exact ff h rfl
    | _ => exact ff h rfl
  | .ite t a b, cf, sc, X, R, k, e, h => by
    cases e with
    | IfExp c x y p =>
      have h' : (ckE S lv N cf sc t c && ckE S lv N cf sc a x && ckE S lv N cf sc b y) = true := h
      simp only [Bool.and_eq_true] at h'
      obtain ⟨⟨h1, h2⟩, h3⟩ := h'
      exact ⟨le_ite (sdE t k h1).2 (sdE a k h2).1 (sdE b k h3).1, ⟨fun pins s σ H Q I ⟨G, ρ, C, P, st, v, q⟩ => (show False from v).elim⟩⟩
    | _ => exact ff h rfl
  | .tup es, cf, sc, X, R, k, e, h => by
    cases e with
    | Tuple xs kk p => exact both k (le_tup (sdL es k (show ckL S lv N cf sc es xs = true from h))) rfl
    | _ => exact ff h rfl
  | .lst mu es, cf, sc, X, R, k, e, h => by
    cases e with
    | List xs p => exact both k (le_lst (sdL es k (show ckL S lv N cf sc es xs = true from h))) rfl
    | _ => exact ff h rfl
  | .star _, cf, sc, X, R, k, e, h => ff h rfl
  | .fld a c i, cf, sc, X, R, k, e, h => by
    cases e with
    | Attribute o m p =>
      have h' : (ckE S lv N cf sc a o && baseB o && clB S c fun s => decide (s.fl[i]? = some m)) = true := h
      simp only [Bool.and_eq_true] at h'
      obtain ⟨⟨h1, h2⟩, h3⟩ := h'
      obtain ⟨s, e1, e2⟩ := clB_of h3
      have e2 := of_decide_eq_true e2
      obtain ⟨c1, c2, c3, c4, c5⟩ := k.fct.cl c s e1
      exact both k (le_fld k.hK (sdE a k h1).1 c1 (k.fct.noat c s m e1 (List.mem_of_getElem? e2)) (by rw [c3]; exact c4) (by rw [c3]; exact e2) (base_eq h2)) rfl
    | _ => exact ff h rfl
  | .prop a c f, cf, sc, X, R, k, e, h => by
    cases e with
    | Attribute o m p =>
      have h' : (ckE S lv N cf sc a o && baseB o && dfB S (lv - 1) f fun d => decide (0 < lv) && decide (d.k = 2) && decide (d.c = c) && decide (d.x = m) && clB S c fun _ => true) = true := h
      simp only [Bool.and_eq_true] at h'
      obtain ⟨⟨h1, h2⟩, h3⟩ := h'
      obtain ⟨d, e1, e2, e3⟩ := dfB_of h3
      simp only [Bool.and_eq_true, decide_eq_true_eq] at e3
      obtain ⟨⟨⟨⟨p0, p1⟩, p2⟩, p3⟩, p4⟩ := e3
      obtain ⟨s, e4, _⟩ := clB_of p4
      obtain ⟨c1, _⟩ := k.fct.cl c s e4
      obtain ⟨pp, hp⟩ := k.fct.prop f d e1 p1
      obtain ⟨dvs, ds, db, dz⟩ := k.fct.dfl f d 0 e1 (Nat.zero_le _)
      obtain ⟨rfl, rfl⟩ := dz rfl
      subst p2 p3
      exact both k (le_prop k.hK (sdE a k h1).1 c1 hp (k.fok f d e1 (by omega)) (k.sl f d e1) (k.room.mono (by omega)) db (base_eq h2)) rfl
    | _ => exact ff h rfl
  | .call f es nd, cf, sc, X, R, k, e, h => by
    cases e with
    | Call g xs ks p =>
      cases g with
      | Name x q =>
        cases ks with
        | nil =>
          have h' : (glB sc x && nmB x && noStars xs && ckL S lv N cf sc es xs && dfB S lv f fun d => decide (d.k = 0) && decide (d.x = x) && decide (nd ≤ d.nd)) = true := h
          simp only [Bool.and_eq_true] at h'
          obtain ⟨⟨⟨⟨h1, h2⟩, h3⟩, h4⟩, h5⟩ := h'
          obtain ⟨d, e1, e2, e3⟩ := dfB_of h5
          simp only [Bool.and_eq_true, decide_eq_true_eq] at e3
          obtain ⟨⟨p1, p2⟩, p3⟩ := e3
          subst p2
          obtain ⟨dvs, ds, db, _⟩ := k.fct.dfl f d nd e1 p3
          have F := k.fok f d e1 e2
          have hm : X.mg d.x = some (.ref (T.fa f)) := by rw [k.hmg]; exact k.fct.glo f d e1 p1
          have hk : PySem.W.keepIn X.K (.ref (T.fa f)) = true := by rw [k.hK]; exact k.fct.keep f d e1 p1
          refine both k ?_ rfl
          cases xs with
          | nil =>
            cases es with
            | nil => exact le_call0 k.hK F (k.sl f d e1) (k.room.mono e2) (k.gl h1) hm hk db k.tk k.ok (nm_eq h2)
            | cons m es => exact ff h4 rfl
          | cons y xs =>
            have h3' : (!isStar y && noStars xs) = true := h3
            rw [Bool.and_eq_true, Bool.not_eq_true'] at h3'
            exact le_call k.hK F (k.sl f d e1) (k.room.mono e2) (k.gl h1) hm hk db k.tk k.ok (sdL es k h4) (nm_eq h2) (star_eq h3'.1) (nostar_any h3'.2)
        | cons => exact ff h rfl
      | _ => exact ff h rfl
    | _ => exact ff h rfl
  | .callk f es ks zs pm, cf, sc, X, R, k, e, h => by
    cases e with
    | Call g xs ws p =>
      cases g with
      | Name x q =>
        have h' : (glB sc x && nmB x && noStars xs && ckL S lv N cf sc es xs && ckK S lv N cf sc ks zs ws && (dfB S lv f fun d => decide (d.k = 0) && decide (d.x = x)) && (S.kws.any fun q => decide (q.f = f) && decide (q.n = es.length) && decide (q.ks = ks) && decide (q.pm = pm)) && decide (es.length = xs.length)) = true := h
        simp only [Bool.and_eq_true, decide_eq_true_eq] at h'
        obtain ⟨⟨⟨⟨⟨⟨⟨h1, h2⟩, h3⟩, h4⟩, h5⟩, h6⟩, h7⟩, h8⟩ := h'
        obtain ⟨d, e1, e2, e3⟩ := dfB_of h6
        simp only [Bool.and_eq_true, decide_eq_true_eq] at e3
        obtain ⟨p1, p2⟩ := e3
        subst p2
        obtain ⟨kq, hq1, hq2⟩ := List.any_eq_true.mp h7
        simp only [Bool.and_eq_true, decide_eq_true_eq] at hq2
        obtain ⟨⟨⟨q1, q2⟩, q3⟩, q4⟩ := hq2
        subst q1 q3 q4
        have hb := k.fct.kw kq hq1 d e1
        rw [q2] at hb
        have F := k.fok kq.f d e1 e2
        have hm : X.mg d.x = some (.ref (T.fa kq.f)) := by rw [k.hmg]; exact k.fct.glo kq.f d e1 p1
        have hk : PySem.W.keepIn X.K (.ref (T.fa kq.f)) = true := by rw [k.hK]; exact k.fct.keep kq.f d e1 p1
        obtain ⟨r1, r2, r3, r4, r5⟩ := sdK zs k p h5
        have hpl : ((backTo p (starEach xs X.env)).any (·.1) || (backToKw p (keywordEach ws X.env)).any (·.1.isNone)) = false := by rw [nostar_any h3, r4]; rfl
        cases xs with
        | nil =>
          cases es with
          | nil =>
            refine both k (PEi (pe_callKS (n := 0) (t := tNil) (es := []) F (k.room.mono e2) (k.gl h1) hm hk (k.hK ▸ hb) (passAt k.tk) pa_nil r1 r2 r3 (nm_eq h2) (.inl rfl) hpl fun _ => rfl) fun σ H Q hh => ?_) rfl
            have hh' : LE T R (wCallK (Γ kq.f) 0 zs.length kq.pm (fun ρ C K _ => K [] ρ C) (wpL Γ zs)) σ H Q := hh
            rw [r5]
            have z := callk_imp k.ok (k.sl kq.f d e1) hh'
            obtain ⟨G, ρ, C, P, st, v, q⟩ := hh'
            exact ⟨G, ρ, C, _, st, v, fun ys ρ2 C2 ws G2 H2 h2 s2 f2 r2 => ⟨rfl, by rw [r2.len]; exact h2.1.2, sp_go s2 k.ok (k.sl kq.f d e1) (pick_reps r2 kq.pm) h2.2 fun d C' u G' H' k s3 f3 rep => q d ρ2 C' u G' H' k s3 (f2.trans f3) rep⟩⟩
          | cons m es => exact ff h4 rfl
        | cons y xs =>
          have h3' : (!isStar y && noStars xs) = true := h3
          rw [Bool.and_eq_true, Bool.not_eq_true'] at h3'
          refine both k (PEi (pe_callKS (n := es.length) F (k.room.mono e2) (k.gl h1) hm hk (k.hK ▸ hb) (passAt k.tk) (sdL es k h4) r1 r2 r3 (nm_eq h2) (.inr ⟨y, xs, rfl, star_eq h3'.1⟩) hpl fun z => by cases z) fun σ H Q hh => ?_) rfl
          have hh' : LE T R (wCallK (Γ kq.f) es.length zs.length kq.pm (wpL Γ es) (wpL Γ zs)) σ H Q := hh
          rw [r5]
          exact callk_imp k.ok (k.sl kq.f d e1) hh'
      | _ => exact ff h rfl
    | _ => exact ff h rfl
  | .make mu c f es nd, cf, sc, X, R, k, e, h => by
    cases e with
    | Call g xs ks p =>
      cases g with
      | Name x q =>
        cases ks with
        | nil =>
          have h' : (glB sc x && nmB x && noStars xs && ckL S lv N cf sc es xs && decide (0 < lv) && (dfB S (lv - 1) f fun d => decide (d.k = 3) && decide (d.c = c) && decide (nd ≤ d.nd)) && clB S c fun s => decide (s.x = x)) = true := h
          simp only [Bool.and_eq_true, decide_eq_true_eq] at h'
          obtain ⟨⟨⟨⟨⟨⟨h1, h2⟩, h3⟩, h4⟩, h6⟩, h5⟩, h7⟩ := h'
          obtain ⟨d, e1, e2, e3⟩ := dfB_of h5
          simp only [Bool.and_eq_true, decide_eq_true_eq] at e3
          obtain ⟨⟨p1, p2⟩, p3⟩ := e3
          obtain ⟨s, e4, e5⟩ := clB_of h7
          have e5 := of_decide_eq_true e5
          subst p2 e5
          obtain ⟨dvs, ds, db, dz⟩ := k.fct.dfl f d nd e1 p3
          have F := k.fok f d e1 (by omega)
          obtain ⟨_, c2, _⟩ := k.fct.cl _ s e4
          have hm : X.mg s.x = some (.ref (T.cl d.c)) := by rw [k.hmg]; exact c2
          refine both k ?_ rfl
          cases xs with
          | nil =>
            cases es with
            | nil => exact le_make0 k.hK (k.fct.mkr f d e1 p1) F (k.sl f d e1) (k.room.mono (by omega)) (k.gl h1) hm db k.tk k.ok (nm_eq h2)
            | cons m es => exact ff h4 rfl
          | cons y xs =>
            have h3' : (!isStar y && noStars xs) = true := h3
            rw [Bool.and_eq_true, Bool.not_eq_true'] at h3'
            exact le_make k.hK (k.fct.mkr f d e1 p1) F (k.sl f d e1) (k.room.mono (by omega)) (k.gl h1) hm db k.tk k.ok (sdL es k h4) (nm_eq h2) (star_eq h3'.1) (nostar_any h3'.2)
        | cons => exact ff h rfl
      | _ => exact ff h rfl
    | _ => exact ff h rfl
  | .makek mu c f es ks0 zs pm, cf, sc, X, R, k, e, h => by
    cases e with
    | Call g xs ws p =>
      cases g with
      | Name x q =>
        have h' : (glB sc x && nmB x && noStars xs && ckL S lv N cf sc es xs && ckK S lv N cf sc ks0 zs ws && decide (0 < lv) && (dfB S (lv - 1) f fun d => decide (d.k = 3) && decide (d.c = c)) && (S.kws.any fun q => decide (q.f = f) && decide (q.n = es.length + 1) && decide (q.ks = ks0) && decide (q.pm = 0 :: pm.map (· + 1))) && decide (es.length = xs.length) && clB S c fun s => decide (s.x = x)) = true := h
        simp only [Bool.and_eq_true, decide_eq_true_eq] at h'
        obtain ⟨⟨⟨⟨⟨⟨⟨⟨⟨h1, h2⟩, h3⟩, h4⟩, h5⟩, h0⟩, h6⟩, h7⟩, h8⟩, h9⟩ := h'
        obtain ⟨d, e1, e2, e3⟩ := dfB_of h6
        simp only [Bool.and_eq_true, decide_eq_true_eq] at e3
        obtain ⟨p1, p2⟩ := e3
        rw [List.any_eq_true] at h7
        obtain ⟨kq, hq, hk7⟩ := h7
        simp only [Bool.and_eq_true, decide_eq_true_eq] at hk7
        obtain ⟨⟨⟨q1, q2⟩, q3⟩, q4⟩ := hk7
        obtain ⟨s, e4, e5⟩ := clB_of h9
        have e5 := of_decide_eq_true e5
        subst p2 e5 q1
        have hb := k.fct.kw kq hq d e1
        rw [q2, q3, q4] at hb
        have F := k.fok kq.f d e1 (by omega)
        obtain ⟨_, c2, _⟩ := k.fct.cl _ s e4
        have hm : X.mg s.x = some (.ref (T.cl d.c)) := by rw [k.hmg]; exact c2
        obtain ⟨r1, r2, r3, r4, r5⟩ := sdK zs k p h5
        have hpl : ((backTo p (starEach xs X.env)).any (·.1) || (backToKw p (keywordEach ws X.env)).any (·.1.isNone)) = false := by rw [nostar_any h3, r4]; rfl
        have hM := k.fct.mkr kq.f d e1 p1
        cases xs with
        | nil =>
          cases es with
          | nil =>
            refine both k (PEi (pe_makeKS (n := 0) (t := tNil) (es := []) (k.hK ▸ hM) F (k.room.mono (by omega)) (k.gl h1) hm (k.hK ▸ hb) (passAt k.tk) pa_nil r1 r2 r3 (nm_eq h2) (.inl rfl) hpl fun _ => rfl) fun σ H Q hh => ?_) rfl
            have hh' : LE T R (wMakeK (Γ kq.f) 0 zs.length d.c pm mu (fun ρ C K _ => K [] ρ C) (wpL Γ zs)) σ H Q := hh
            rw [r5]
            obtain ⟨G, ρ, C, P, st, v, q⟩ := hh'
            exact ⟨G, ρ, C, _, st, v, fun ys ρ2 C2 ws G2 H2 h2 s2 f2 r2 => ⟨rfl, by rw [r2.len]; exact h2.1.2, fun x dx hx hd ne => make_go s2 k.ok (k.sl kq.f d e1) (pick_reps r2 pm) h2.2 (fun d C' u G' H' k s3 f3 rep => q d ρ2 C' u G' H' k s3 (f2.trans f3) rep) x dx hx hd ne⟩⟩
          | cons m es => exact ff h4 rfl
        | cons y xs =>
          have h3' : (!isStar y && noStars xs) = true := h3
          rw [Bool.and_eq_true, Bool.not_eq_true'] at h3'
          refine both k (PEi (pe_makeKS (n := es.length) (k.hK ▸ hM) F (k.room.mono (by omega)) (k.gl h1) hm (k.hK ▸ hb) (passAt k.tk) (sdL es k h4) r1 r2 r3 (nm_eq h2) (.inr ⟨y, xs, rfl, star_eq h3'.1⟩) hpl fun z => by cases z) fun σ H Q hh => ?_) rfl
          have hh' : LE T R (wMakeK (Γ kq.f) es.length zs.length d.c pm mu (wpL Γ es) (wpL Γ zs)) σ H Q := hh
          rw [r5]
          exact makek_imp k.ok (k.sl kq.f d e1) hh'
      | _ => exact ff h rfl
    | _ => exact ff h rfl
  | .ocmp eq a b c f, cf, sc, X, R, k, e, h => by
    cases e with
    | Compare l os rs p =>
      match os, rs, h with
      | [o], [r], h =>
        have h' : (decide (eqOp eq = o) && ckE S lv N cf sc a l && ckE S lv N cf sc b r && !isSet r && (clB S c fun _ => true) && decide (2 ≤ lv) && dfB S (lv - 2) f fun d => decide (d.k = 1) && decide (d.c = c) && decide (d.x = ("__eq__" : Str))) = true := h
        simp only [Bool.and_eq_true, decide_eq_true_eq, Bool.not_eq_true'] at h'
        obtain ⟨⟨⟨⟨⟨⟨rfl, h2⟩, h3⟩, h4⟩, h5⟩, h6⟩, h7⟩ := h'
        obtain ⟨s, e4, _⟩ := clB_of h5
        obtain ⟨d, e1, e2, e3⟩ := dfB_of h7
        simp only [Bool.and_eq_true, decide_eq_true_eq] at e3
        obtain ⟨⟨p1, rfl⟩, p3⟩ := e3
        obtain ⟨dvs, ds, db, dz⟩ := k.fct.dfl f d 0 e1 (Nat.zero_le _)
        obtain ⟨rfl, rfl⟩ := dz rfl
        have m := k.fct.meth f d e1 p1
        rw [p3] at m
        exact le_ocmp k.hK (k.fct.isc _ s e4) (k.fct.spc _ s e4) m (k.fok f d e1 (by omega)) (k.sl f d e1) (k.room.mono (by omega)) db (sdE a k h2).1 (sdE b k h3).1 (mark_eq h4)
      | [], _, h => exact ff h rfl
      | _ :: _ :: _, _, h => exact ff h rfl
      | [_], [], h => exact ff h rfl
      | [_], _ :: _ :: _, h => exact ff h rfl
    | _ => exact ff h rfl
  | .ostr rp a c f, cf, sc, X, R, k, e, h => by
    cases e with
    | Call g xs ks p =>
      cases g with
      | Name x q =>
        match xs, ks, h with
        | [y], [], h =>
          cases rp with
          | true =>
            have h' : (decide (x = ("repr" : Str)) && freeB S sc x && !isStar y && ckE S lv N cf sc a y && (clB S c fun _ => true) && decide (2 ≤ lv) && dfB S (lv - 2) f fun d => decide (d.k = 1) && decide (d.c = c) && decide (d.x = ("__repr__" : Str))) = true := h
            simp only [Bool.and_eq_true, decide_eq_true_eq, Bool.not_eq_true'] at h'
            obtain ⟨⟨⟨⟨⟨⟨rfl, h2⟩, h3⟩, h4⟩, h5⟩, h6⟩, h7⟩ := h'
            obtain ⟨g1, g2⟩ := k.free h2
            obtain ⟨s, e4, _⟩ := clB_of h5
            obtain ⟨d, e1, e2, e3⟩ := dfB_of h7
            simp only [Bool.and_eq_true, decide_eq_true_eq] at e3
            obtain ⟨⟨p1, rfl⟩, p3⟩ := e3
            obtain ⟨dvs, ds, db, dz⟩ := k.fct.dfl f d 0 e1 (Nat.zero_le _)
            obtain ⟨rfl, rfl⟩ := dz rfl
            have m := k.fct.meth f d e1 p1
            rw [p3] at m
            exact both k (le_orepr k.hK m (k.fok f d e1 (by omega)) (k.sl f d e1) (k.room.mono (by omega)) db (sdE a k h4).1 g1 g2 (star_eq h3)) rfl
          | false =>
            have h' : (decide (x = ("str" : Str)) && freeB S sc x && !isStar y && ckE S lv N cf sc a y && (clB S c fun _ => true) && decide (2 ≤ lv) && dfB S (lv - 2) f fun d => decide (d.k = 1) && decide (d.c = c) && decide (d.x = ("__str__" : Str))) = true := h
            simp only [Bool.and_eq_true, decide_eq_true_eq, Bool.not_eq_true'] at h'
            obtain ⟨⟨⟨⟨⟨⟨rfl, h2⟩, h3⟩, h4⟩, h5⟩, h6⟩, h7⟩ := h'
            obtain ⟨g1, g2⟩ := k.free h2
            obtain ⟨s, e4, _⟩ := clB_of h5
            obtain ⟨d, e1, e2, e3⟩ := dfB_of h7
            simp only [Bool.and_eq_true, decide_eq_true_eq] at e3
            obtain ⟨⟨p1, rfl⟩, p3⟩ := e3
            obtain ⟨dvs, ds, db, dz⟩ := k.fct.dfl f d 0 e1 (Nat.zero_le _)
            obtain ⟨rfl, rfl⟩ := dz rfl
            have m := k.fct.meth f d e1 p1
            rw [p3] at m
            exact both k (le_ostr k.hK m (k.fok f d e1 (by omega)) (k.sl f d e1) (k.room.mono (by omega)) db (sdE a k h4).1 g1 g2 (star_eq h3)) rfl
        | [], _, h => exact ff h rfl
        | _ :: _ :: _, _, h => exact ff h rfl
        | [_], _ :: _, h => exact ff h rfl
      | _ => exact ff h rfl
    | _ => exact ff h rfl
  | .obool a c, cf, sc, X, R, k, e, h => by
    cases e with
    | Call g xs ks p =>
      cases g with
      | Name x q =>
        match xs, ks, h with
        | [y], [], h =>
          have h' : (decide (x = ("bool" : Str)) && freeB S sc x && !isStar y && ckE S lv N cf sc a y && clB S c fun _ => true) = true := h
          simp only [Bool.and_eq_true, decide_eq_true_eq, Bool.not_eq_true'] at h'
          obtain ⟨⟨⟨⟨rfl, h2⟩, h3⟩, h4⟩, h5⟩ := h'
          obtain ⟨g1, g2⟩ := k.free h2
          obtain ⟨s, e4, _⟩ := clB_of h5
          exact both k (le_obool k.hK (k.fct.spc _ s e4) (sdE a k h4).1 g1 g2 (star_eq h3)) rfl
        | [], _, h => exact ff h rfl
        | _ :: _ :: _, _, h => exact ff h rfl
        | [_], _ :: _, h => exact ff h rfl
      | _ => exact ff h rfl
    | _ => exact ff h rfl
  | .sstr a, cf, sc, X, R, k, e, h => by
    cases e with
    | Call g xs ks p =>
      cases g with
      | Name x q =>
        match xs, ks, h with
        | [y], [], h =>
          have h' : (decide (x = ("str" : Str)) && freeB S sc x && !isStar y && ckE S lv N cf sc a y) = true := h
          simp only [Bool.and_eq_true, decide_eq_true_eq, Bool.not_eq_true'] at h'
          obtain ⟨⟨⟨rfl, h2⟩, h3⟩, h4⟩ := h'
          obtain ⟨g1, g2⟩ := k.free h2
          exact both k (le_sstr (sdE a k h4).1 g1 g2 (star_eq h3)) rfl
        | [], _, h => exact ff h rfl
        | _ :: _ :: _, _, h => exact ff h rfl
        | [_], _ :: _, h => exact ff h rfl
      | _ => exact ff h rfl
    | _ => exact ff h rfl
  | .meth a c f es, cf, sc, X, R, k, e, h => by
    cases e with
    | Call g xs ks p =>
      cases g with
      | Attribute o m q =>
        cases ks with
        | nil =>
          have h' : (ckE S lv N cf sc a o && baseB o && noStars xs && decide (xs.length < 30) && (q.endLine == p.line) && ckL S lv N cf sc es xs &&
            dfB S lv f fun d => decide (d.k = 1) && decide (d.c = c) && decide (d.x = m) && clB S c fun s => decide (m ∉ s.fl)) = true := h
          simp only [Bool.and_eq_true, decide_eq_true_eq] at h'
          obtain ⟨⟨⟨⟨⟨⟨h1, h2⟩, h3⟩, h4⟩, h5⟩, h6⟩, h7⟩ := h'
          obtain ⟨d, e1, e2, e3⟩ := dfB_of h7
          simp only [Bool.and_eq_true, decide_eq_true_eq] at e3
          obtain ⟨⟨⟨p1, p2⟩, p3⟩, p4⟩ := e3
          obtain ⟨s, e4, e5⟩ := clB_of p4
          have e5 := of_decide_eq_true e5
          subst p2 p3
          obtain ⟨dvs, ds, db, dz⟩ := k.fct.dfl f d 0 e1 (Nat.zero_le _)
          obtain ⟨rfl, rfl⟩ := dz rfl
          obtain ⟨c1, _, c3, _⟩ := k.fct.cl _ s e4
          have F := k.fok f d e1 e2
          have hn : d.x ∉ T.fl d.c := by rw [c3]; exact e5
          refine both k ?_ rfl
          cases xs with
          | nil =>
            cases es with
            | nil => exact le_meth0 k.hK (sdE a k h1).1 c1 (k.fct.meth f d e1 p1) hn F (k.sl f d e1) (k.room.mono e2) db k.tk k.ok (meth_eq h2 h3 h4 h5)
            | cons m es => exact ff h6 rfl
          | cons y xs =>
            have h3' : (!isStar y && noStars xs) = true := h3
            rw [Bool.and_eq_true, Bool.not_eq_true'] at h3'
            exact le_meth k.hK (sdE a k h1).1 c1 (k.fct.meth f d e1 p1) hn F (k.sl f d e1) (k.room.mono e2) db k.tk k.ok (sdL es k h6) (star_eq h3'.1) (nostar_any h3'.2) (meth_eq h2 h3 h4 h5)
        | cons => exact ff h rfl
      | _ => exact ff h rfl
    | _ => exact ff h rfl
  | .bi f es, cf, sc, X, R, k, e, h => by
    cases e with
    | Call g xs ks p =>
      cases g with
      | Name x q =>
        cases xs with
        | nil => exact ff h rfl
        | cons y xs =>
          cases ks with
          | nil =>
            have h' : ((biTy f || biFn f) && decide (x = (f : Str)) && freeB S sc x && noStars (y :: xs) && ckL S lv N cf sc es (y :: xs)) = true := h
            simp only [Bool.and_eq_true, decide_eq_true_eq, Bool.or_eq_true] at h'
            obtain ⟨⟨⟨⟨h1, rfl⟩, h2⟩, h3⟩, h4⟩ := h'
            obtain ⟨g1, g2⟩ := k.free h2
            have h3' : (!isStar y && noStars xs) = true := h3
            rw [Bool.and_eq_true, Bool.not_eq_true'] at h3'
            refine both k (le_cb (f := f) ?_) rfl
            rcases h1 with h1 | h1
            · obtain ⟨b1, b2, b3, b4⟩ := bi_ty (T := T) (X := X) h1 k.hK
              exact pe_callTy b4 g1 g2 b1 (sdL es k h4) b2 b3 (star_eq h3'.1) (nostar_any h3'.2)
            · obtain ⟨b1, b2, b3, b4⟩ := bi_fn (T := T) (X := X) h1 k.hK k.calm k.room.gd k.un
              exact pe_callB b4 g1 g2 b1 (sdL es k h4) b2 b3 (star_eq h3'.1) (nostar_any h3'.2)
          | cons => exact ff h rfl
      | _ => exact ff h rfl
    | _ => exact ff h rfl
  | .isT a t, cf, sc, X, R, k, e, h => by
    cases e with
    | Call g xs ks p =>
      cases g with
      | Name x q =>
        match xs, ks, h with
        | [y, z0], ks, h =>
          cases z0 with
          | Name z pz =>
            cases ks with
            | nil =>
                have h' : (decide (x = ("isinstance" : Str)) && freeB S sc x && tyNm t && decide (z = (t : Str)) && freeB S sc z && ckE S lv N cf sc a y && !isStar y) = true := h
                simp only [Bool.and_eq_true, decide_eq_true_eq, Bool.not_eq_true'] at h'
                obtain ⟨⟨⟨⟨⟨⟨rfl, h1⟩, h2⟩, rfl⟩, h3⟩, h4⟩, h5⟩ := h'
                obtain ⟨g1, g2⟩ := k.free h1
                obtain ⟨g3, g4⟩ := k.free h3
                obtain ⟨b1, b2, b3⟩ := ty_nm h2
                exact both k (le_isT k.hK (sdE a k h4).1 g1 g2 g3 g4 b1 b2 b3 (star_eq h5)) rfl
            | cons => exact ff h rfl
          | _ => cases ks <;> exact ff h rfl
        | [], _, h => exact ff h rfl
        | [_], _, h => exact ff h rfl
        | _ :: z :: _ :: _, _, h => cases z <;> exact ff h rfl
      | _ => exact ff h rfl
    | _ => exact ff h rfl
  | .isC a c, cf, sc, X, R, k, e, h => by
    cases e with
    | Call g xs ks p =>
      cases g with
      | Name x q =>
        match xs, ks, h with
        | [y, z0], ks, h =>
          cases z0 with
          | Name z pz =>
            cases ks with
            | nil =>
                have h' : (decide (x = ("isinstance" : Str)) && freeB S sc x && glB sc z && nmB z && ckE S lv N cf sc a y && !isStar y && clB S c fun s => decide (s.x = z)) = true := h
                simp only [Bool.and_eq_true, decide_eq_true_eq, Bool.not_eq_true'] at h'
                obtain ⟨⟨⟨⟨⟨⟨rfl, h1⟩, h2⟩, h3⟩, h4⟩, h5⟩, h6⟩ := h'
                obtain ⟨g1, g2⟩ := k.free h1
                obtain ⟨s, e4, e5⟩ := clB_of h6
                have e5 := of_decide_eq_true e5
                subst e5
                obtain ⟨_, c2, _⟩ := k.fct.cl _ s e4
                exact both k (le_isC k.hK (k.fct.isc c s e4) (sdE a k h4).1 g1 g2 (k.gl h2) (by rw [k.hmg]; exact c2) (nm_eq h3) (star_eq h5)) rfl
            | cons => exact ff h rfl
          | _ => cases ks <;> exact ff h rfl
        | [], _, h => exact ff h rfl
        | [_], _, h => exact ff h rfl
        | _ :: z :: _ :: _, _, h => cases z <;> exact ff h rfl
      | _ => exact ff h rfl
    | _ => exact ff h rfl
  | .bm a t m es, cf, sc, X, R, k, e, h => by
    cases e with
    | Call g xs ks p =>
      cases g with
      | Attribute o n q =>
        cases xs with
        | nil => exact ff h rfl
        | cons y xs =>
          cases ks with
          | nil =>
            have h' : (bmB t m && decide (n = (m : Str)) && ckE S lv N cf sc a o && baseB o && noStars (y :: xs) && decide (xs.length < 20) && (q.endLine == p.line) && ckL S lv N cf sc es (y :: xs)) = true := h
            simp only [Bool.and_eq_true, decide_eq_true_eq] at h'
            obtain ⟨⟨⟨⟨⟨⟨⟨h1, rfl⟩, h2⟩, h3⟩, h4⟩, h5⟩, h6⟩, h7⟩ := h'
            have h4' : (!isStar y && noStars xs) = true := h4
            rw [Bool.and_eq_true, Bool.not_eq_true'] at h4'
            have hfew : ((backTo p (starEach (y :: xs) X.env)).all (fun x => !x.1) && (backToKw p (keywordEach [] X.env)).all (fun x => x.1.isSome)
              && decide ((y :: xs).length + ([] : List Keyword).length + (if ([] : List Keyword).isEmpty then 0 else 1) < 30)) = true := by
              rw [nostar_all h4]
              simp [backToKw, keywordEach]
              omega
            unfold bmB at h1
            simp only [Bool.and_eq_true, Bool.or_eq_true, beq_iff_eq] at h1
            refine both k ?_ rfl
            rcases h1 with (⟨rfl, rfl⟩ | ⟨rfl, rfl⟩) | ⟨rfl, rfl⟩
            · exact le_bm k.hK (pe_bm F.plainAttrs_str F.slot_str_split F.type_str_split split_ok (sdE a k h2).1 (sdL es k h7) (base_eq h3) hfew h6 (star_eq h4'.1) (nostar_any h4'.2))
            · exact le_bm k.hK (pe_bm F.plainAttrs_str F.slot_str_join F.type_str_join join_ok (sdE a k h2).1 (sdL es k h7) (base_eq h3) hfew h6 (star_eq h4'.1) (nostar_any h4'.2))
            · exact le_bm k.hK (pe_bm F.plainAttrs_list F.slot_list_index F.type_list_index (index_ok k.hK) (sdE a k h2).1 (sdL es k h7) (base_eq h3) hfew h6 (star_eq h4'.1) (nostar_any h4'.2))
          | cons => exact ff h rfl
      | _ => exact ff h rfl
    | _ => exact ff h rfl
  | .app a b, cf, sc, X, R, k, e, h => by
    cases e with
    | Call g xs ks p =>
      cases g with
      | Attribute o n q =>
        match xs, ks, h with
        | [y], [], h =>
          have h' : (decide (n = ("append" : Str)) && ckE S lv N cf sc a o && baseB o && !isStar y && (q.endLine == p.line) && ckE S lv N cf sc b y) = true := h
          simp only [Bool.and_eq_true, decide_eq_true_eq, Bool.not_eq_true'] at h'
          obtain ⟨⟨⟨⟨⟨rfl, h2⟩, h3⟩, h4⟩, h5⟩, h6⟩ := h'
          have hfew : ((backTo p (starEach [y] X.env)).all (fun x => !x.1) && (backToKw p (keywordEach [] X.env)).all (fun x => x.1.isSome)
              && decide ([y].length + ([] : List Keyword).length + (if ([] : List Keyword).isEmpty then 0 else 1) < 30)) = true := by
            rw [star_eq h4]
            rfl
          exact both k (le_app (pe_bm F.plainAttrs_list F.slot_list_append F.type_list_append mt_append (sdE a k h2).1 (pa_cons (sdE b k h6).1 pa_nil (star_eq h4)) (base_eq h3) hfew h5 (star_eq h4) rfl)) rfl
        | [], _, h => exact ff h rfl
        | _ :: _ :: _, _, h => exact ff h rfl
        | [_], _ :: _, h => exact ff h rfl
      | _ => exact ff h rfl
    | _ => exact ff h rfl
  | .idx a b, cf, sc, X, R, k, e, h => by
    cases e with
    | Subscript x y p =>
      have h' : (ckE S lv N cf sc a x && ckE S lv N cf sc b y && !isSl y) = true := h
      simp only [Bool.and_eq_true, Bool.not_eq_true'] at h'
      obtain ⟨⟨h1, h2⟩, h3⟩ := h'
      exact both k (le_idx k.hK k.un (sdE a k h1).1 (sdE b k h2).1 (ix_eq h3)) rfl
    | _ => exact ff h rfl
  | .slice a lo hi, cf, sc, X, R, k, e, h => by
    cases e with
    | Subscript x y p =>
      cases y with
      | Slice l u st p2 =>
        cases st with
        | none =>
          have h' : (ckE S lv N cf sc a x && ckO S lv N cf sc lo l && ckO S lv N cf sc hi u) = true := h
          simp only [Bool.and_eq_true] at h'
          obtain ⟨⟨h1, h2⟩, h3⟩ := h'
          exact both k (le_slice k.hK (sdE a k h1).1 (sdO lo k h2) (sdO hi k h3)) rfl
        | some _ => exact ff h rfl
      | _ => exact ff h rfl
    | _ => exact ff h rfl
  | .sset a, cf, sc, X, R, k, e, h => by
    cases e with
    | Call g xs ks p =>
      cases g with
      | Name x q =>
        match xs, ks, h with
        | [.Call (.Name y q2) [z] [] p2], [], h =>
          have h' : (decide (x = ("sorted" : Str)) && freeB S sc x && decide (y = ("set" : Str)) && freeB S sc y && !isStar z && ckE S lv N cf sc a z) = true := h
          simp only [Bool.and_eq_true, decide_eq_true_eq, Bool.not_eq_true'] at h'
          obtain ⟨⟨⟨⟨⟨rfl, h1⟩, rfl⟩, h2⟩, h3⟩, h4⟩ := h'
          obtain ⟨g1, m1⟩ := k.free h1
          obtain ⟨g2, m2⟩ := k.free h2
          exact both k (le_sset k.calm g1 m1 g2 m2 (sdE a k h4).1 (star_eq h3)) rfl
      | _ => exact ff h rfl
    | _ => exact ff h rfl
  | .dnew, cf, sc, X, R, k, e, h => by
    cases e with
    | Dict ks vs p =>
      cases ks with
      | nil =>
        cases vs with
        | nil => exact both k le_dnew rfl
        | cons v vs => exact ff h rfl
      | cons q ks => exact ff h rfl
    | _ => exact ff h rfl
  | .sstep a b, cf, sc, X, R, k, e, h => by
    cases e with
    | Subscript x y p =>
      cases y with
      | Slice l u st p3 =>
        match l, u, st, h with
        | none, none, some q, h =>
          have h' : (ckE S lv N cf sc a x && ckE S lv N cf sc b q) = true := h
          simp only [Bool.and_eq_true] at h'
          exact both k (le_step (sdE a k h'.1).1 (sdE b k h'.2).1) rfl
      | _ => exact ff h rfl
    | _ => exact ff h rfl
  | .rev a, cf, sc, X, R, k, e, h => by
    cases e with
    | Subscript x y p =>
      cases y with
      | Slice l u st p3 =>
        cases l with
        | some _ => exact ff h rfl
        | none =>
          cases u with
          | some _ => exact ff h rfl
          | none =>
            cases st with
            | none => exact ff h rfl
            | some q =>
              cases q with
              | UnaryOp op z p2 =>
                cases op with
                | USub =>
                  cases z with
                  | Constant cc kk p1 =>
                    cases cc with
                    | int i =>
                      have h' : (decide (i = 1) && ckE S lv N cf sc a x) = true := h
                      simp only [Bool.and_eq_true, decide_eq_true_eq] at h'
                      obtain ⟨rfl, h1⟩ := h'
                      exact both k (le_rev (sdE a k h1).1) rfl
                    | _ => exact ff h rfl
                  | _ => exact ff h rfl
                | _ => exact ff h rfl
              | _ => exact ff h rfl
      | _ => exact ff h rfl
    | _ => exact ff h rfl
  | .comp mu elt tg it cs own, cf, sc, X, R, k, e, h => by
    cases e with
    | ListComp x gs scope p =>
      match gs, h with
      | [⟨t, i, ifs, ia⟩], h =>
        have h' : (decide (ia = 0) && decide (sc.kind = .function) && blkC N sc scope own && ((mtIx tg).all fun i => (own.map (·.2)).contains i) && !isSet i && ckI S lv N cf sc it t i && ckTg N (cellP scope) (relS scope sc) tg t && ckT S lv N false (relS scope sc) cs ifs && ckE S lv N false (relS scope sc) elt x) = true := h
        simp only [Bool.and_eq_true, decide_eq_true_eq, Bool.not_eq_true'] at h'
        obtain ⟨⟨⟨⟨⟨⟨⟨⟨rfl, h1⟩, h2⟩, h3⟩, h4⟩, h5⟩, h6⟩, h7⟩, h8⟩ := h'
        have hv : ∀ i ∈ mtIx tg, i ∈ own.map (·.2) := fun i hi => by simpa using List.all_eq_true.mp h3 i hi
        refine both k (PEi (pe_lc k.calm (by rw [k.hN]; exact k.nd) (sdI it k h5) (by rw [k.hN, k.hsc]; exact blkOk_by h2) (fun s H C cl fp => tg_ok (k.blk s H C cl fp scope) (fun x e => e) h6) (fun s H C cl fp => sdT cs (k.blk s H C cl fp scope) h7) (fun s H C cl fp => (sdE elt (k.blk s H C cl fp scope) h8).1) (set_eq h4)) fun σ H Q h => comp_imp hv h) rfl
      | [], h => exact ff h rfl
      | ⟨t, i, ifs, ia⟩ :: _ :: _, h => exact ff h rfl
    | _ => exact ff h rfl
  | .dcomp mu kx vx tg it cs own, cf, sc, X, R, k, e, h => by
    cases e with
    | DictComp y x gs scope p =>
      match gs, h with
      | [⟨t, i, ifs, ia⟩], h =>
        have h' : (decide (ia = 0) && decide (sc.kind = .function) && blkC N sc scope own && ((mtIx tg).all fun i => (own.map (·.2)).contains i) && !isSet i && ckI S lv N cf sc it t i && ckTg N (cellP scope) (relS scope sc) tg t && ckT S lv N false (relS scope sc) cs ifs && ckE S lv N false (relS scope sc) kx y && ckE S lv N false (relS scope sc) vx x) = true := h
        simp only [Bool.and_eq_true, decide_eq_true_eq, Bool.not_eq_true'] at h'
        obtain ⟨⟨⟨⟨⟨⟨⟨⟨⟨rfl, h1⟩, h2⟩, h3⟩, h4⟩, h5⟩, h6⟩, h7⟩, h9⟩, h8⟩ := h'
        have hv : ∀ i ∈ mtIx tg, i ∈ own.map (·.2) := fun i hi => by simpa using List.all_eq_true.mp h3 i hi
        refine both k (PEi (pe_dc k.calm (by rw [k.hN]; exact k.nd) (sdI it k h5) (by rw [k.hN, k.hsc]; exact blkOk_by h2) (fun s H C cl fp => tg_ok (k.blk s H C cl fp scope) (fun x e => e) h6) (fun s H C cl fp => sdT cs (k.blk s H C cl fp scope) h7) (fun s H C cl fp => (sdE kx (k.blk s H C cl fp scope) h9).1) (fun s H C cl fp => (sdE vx (k.blk s H C cl fp scope) h8).1) (set_eq h4)) fun σ H Q h => dcomp_imp hv h) rfl
      | [], h => exact ff h rfl
      | ⟨t, i, ifs, ia⟩ :: _ :: _, h => exact ff h rfl
    | _ => exact ff h rfl
  | .fstr es, cf, sc, X, R, k, e, h => by
    cases e with
    | JoinedStr xs p =>
      have h' : (decide (2 ≤ xs.length) && ckB S lv N cf sc es xs) = true := h
      simp only [Bool.and_eq_true, decide_eq_true_eq] at h'
      obtain ⟨h1, h2⟩ := h'
      obtain ⟨ts, q1, q2⟩ := sdJ es k h2
      match xs, h1, q1 with
      | v1 :: v2 :: rest, _, q1 => exact both k (le_fstr q1 q2) rfl
    | _ => exact ff h rfl
  | .fmt a, cf, sc, X, R, k, e, h => by
    cases e with
    | FormattedValue x cv sp p =>
      cases sp with
      | none =>
        have h' : (decide (cv = -1) && ckE S lv N cf sc a x) = true := h
        simp only [Bool.and_eq_true, decide_eq_true_eq] at h'
        obtain ⟨rfl, h1⟩ := h'
        exact both k (le_fmt (sdE a k h1).1) rfl
      | some _ => exact ff h rfl
    | _ => exact ff h rfl
theorem sdL : ∀ (es : List ME) {cf : Bool} {sc : Scope} {X : Cx} {R : Rg} (k : Cok T S Γ lv N cf sc X R) {xs : List Expr}, ckL S lv N cf sc es xs = true → PA X xs (LL T R (wpL Γ es))
  | [], cf, sc, X, R, k, xs, h => by
    cases xs with
    | nil => exact ll_nil
    | cons => exact ff h rfl
  | m :: es, cf, sc, X, R, k, xs, h => by
    cases xs with
    | nil => exact ff h rfl
    | cons x xs =>
      by_cases hs : isStarM m = true
      · cases m with
        | star a =>
          cases x with
          | Starred y p =>
            have h' : (ckE S lv N cf sc a y && ckL S lv N cf sc es xs) = true := h
            rw [Bool.and_eq_true] at h'
            exact ll_star k.hK (sdE a k h'.1).1 (sdL es k h'.2) rfl
          | _ => exact ff h rfl
        | _ => cases hs
      · have hs : isStarM m = false := by simpa using hs
        have h' : ((ckE S lv N cf sc m x && !isStar x) && ckL S lv N cf sc es xs) = true := by
          cases m <;> first | exact h | cases hs
        simp only [Bool.and_eq_true, Bool.not_eq_true'] at h'
        obtain ⟨⟨h1, h2⟩, h3⟩ := h'
        rw [wpL_cons hs]
        exact ll_cons (sdE m k h1).1 (sdL es k h3) (star_eq h2)
theorem sdK : ∀ (es : List ME) {cf : Bool} {sc : Scope} {X : Cx} {R : Rg} (k : Cok T S Γ lv N cf sc X R) (pos : Pos) {ks : List Str} {ws : List Keyword}, ckK S lv N cf sc ks es ws = true →
    PK X ws (LL T R (wpL Γ es)) ∧ (backToKw pos (keywordEach ws X.env)).all (·.1.isSome) = true ∧ (backToKw pos (keywordEach ws X.env)).filterMap (·.1) = ks ∧ (backToKw pos (keywordEach ws X.env)).any (·.1.isNone) = false ∧ ks.length = es.length
  | [], cf, sc, X, R, k, pos, ks, ws, h => by
    cases ws with
    | nil =>
      have h' : ks.isEmpty = true := h
      obtain rfl : ks = [] := List.isEmpty_iff.mp h'
      exact ⟨lk_nil, rfl, rfl, rfl, rfl⟩
    | cons => exact ff h rfl
  | m :: es, cf, sc, X, R, k, pos, ks, ws, h => by
    cases ws with
    | nil => exact ff h rfl
    | cons w ws =>
      obtain ⟨nm, x, kp⟩ := w
      cases nm with
      | none => exact ff h rfl
      | some k0 =>
        cases ks with
        | nil => exact ff h rfl
        | cons k' ks =>
          have h' : (decide (k0 = k') && ckE S lv N cf sc m x && ckK S lv N cf sc ks es ws) = true := h
          simp only [Bool.and_eq_true, decide_eq_true_eq] at h'
          obtain ⟨⟨rfl, h1⟩, h2⟩ := h'
          obtain ⟨q1, q2, q3, q4, q5⟩ := sdK es k pos h2
          rw [wpL_cons (ckE_star h1)]
          refine ⟨lk_cons (sdE m k h1).1 q1, ?_, ?_, ?_, by rw [List.length_cons, List.length_cons, q5]⟩
          · show (true && (backToKw pos (keywordEach ws X.env)).all (·.1.isSome)) = true
            rw [q2]; rfl
          · show k0 :: (backToKw pos (keywordEach ws X.env)).filterMap (·.1) = _
            rw [q3]
          · show (false || (backToKw pos (keywordEach ws X.env)).any (·.1.isNone)) = false
            rw [q4]; rfl
theorem sdBo : ∀ (es : List ME) {cf : Bool} {sc : Scope} {X : Cx} {R : Rg} (k : Cok T S Γ lv N cf sc X R) (op : BoolOp) (pos : Pos) {xs : List Expr}, 0 < es.length → ckB S lv N cf sc es xs = true → PE X (.BoolOp op xs pos) (LE T R (wpBo Γ op es).val) ∧ PW X (.BoolOp op xs pos) (LT T R (wpBo Γ op es).tst)
  | [], cf, sc, X, R, k, op, pos, xs, hl, h => absurd hl (Nat.lt_irrefl 0)
  | [m], cf, sc, X, R, k, op, pos, xs, hl, h => by
    match xs, h with
    | [x], h =>
      have h' : (ckE S lv N cf sc m x && true) = true := h
      rw [Bool.and_true] at h'
      have q := sdE m k h'
      exact ⟨pe_one q.1, lw_bo1 q.2⟩
    | [], h => exact ff h rfl
    | x :: y :: xs, h =>
      have h' : (ckE S lv N cf sc m x && false) = true := h
      rw [Bool.and_false] at h'
      cases h'
  | m :: m2 :: es, cf, sc, X, R, k, op, pos, xs, hl, h => by
    match xs, h with
    | [], h => exact ff h rfl
    | [x], h =>
      have h' : (ckE S lv N cf sc m x && false) = true := h
      rw [Bool.and_false] at h'
      cases h'
    | x :: y :: xs, h =>
      have h' : (ckE S lv N cf sc m x && ckB S lv N cf sc (m2 :: es) (y :: xs)) = true := h
      rw [Bool.and_eq_true] at h'
      have q := sdE m k h'.1
      obtain ⟨r1, r2⟩ := sdBo (m2 :: es) k op pos (Nat.zero_lt_succ _) h'.2
      exact ⟨le_bo k.hK q.1 r1, lw_bo q.2 r2⟩
theorem sdJ : ∀ (es : List ME) {cf : Bool} {sc : Scope} {X : Cx} {R : Rg} (k : Cok T S Γ lv N cf sc X R) {xs : List Expr}, ckB S lv N cf sc es xs = true → ∃ ts, PJ X xs ts ∧ LJ T R (wpJ Γ es) ts
  | [], cf, sc, X, R, k, xs, h => by
    cases xs with
    | nil => exact ⟨[], .nil, lj_nil⟩
    | cons => exact ff h rfl
  | m :: es, cf, sc, X, R, k, xs, h => by
    cases xs with
    | nil => exact ff h rfl
    | cons x xs =>
      have h' : (ckE S lv N cf sc m x && ckB S lv N cf sc es xs) = true := h
      rw [Bool.and_eq_true] at h'
      obtain ⟨ts, q1, q2⟩ := sdJ es k h'.2
      exact ⟨_, .cons (sdE m k h'.1).1 q1, lj_cons q2⟩
theorem sdT : ∀ (cs : List ME) {cf : Bool} {sc : Scope} {X : Cx} {R : Rg} (k : Cok T S Γ lv N cf sc X R) {xs : List Expr}, ckT S lv N cf sc cs xs = true → PTs X xs (LT T R (wpTs Γ cs))
  | [], cf, sc, X, R, k, xs, h => by
    cases xs with
    | nil => exact ⟨fun pins s σ H Q I ⟨G, ρ, C, P, st, v, q⟩ => pts_nil.run pins s σ H Q I (q true ρ C G H v st Fr.refl)⟩
    | cons => exact ff h rfl
  | m :: es, cf, sc, X, R, k, xs, h => by
    match xs, h with
    | [x], h => exact pts_one (sdE m k (show ckE S lv N cf sc m x = true from h)).2
    | [], h => exact ff h rfl
    | x :: y :: xs, h => exact ff h rfl
theorem sdO : ∀ (o : Option ME) {cf : Bool} {sc : Scope} {X : Cx} {R : Rg} (k : Cok T S Γ lv N cf sc X R) {x : Option Expr}, ckO S lv N cf sc o x = true → PO X x (LO T R (wpO Γ o))
  | none, cf, sc, X, R, k, x, h => by
    cases x with
    | none => exact lo_none
    | some _ => exact ff h rfl
  | some m, cf, sc, X, R, k, x, h => by
    cases x with
    | none => exact ff h rfl
    | some e => exact lo_some (sdE m k (show ckE S lv N cf sc m e = true from h)).1
theorem sdI : ∀ (it : MI) {cf : Bool} {sc : Scope} {X : Cx} {R : Rg} (k : Cok T S Γ lv N cf sc X R) {tg e : Expr}, ckI S lv N cf sc it tg e = true → PI X tg e (LI T R (wpI Γ it))
  | .it a, cf, sc, X, R, k, tg, e, h => li_it k.hK (sdE a k (show ckE S lv N cf sc a e = true from h)).1
  | .rng es, cf, sc, X, R, k, tg, e, h => by
    cases e with
    | Call g xs ks p =>
      cases g with
      | Name x q =>
        cases ks with
        | nil =>
          have h' : (decide (x = ("range" : Str)) && freeB S sc x && noStars xs && (xs.length == 1 || xs.length == 2 || xs.length == 3) && ckB S lv N cf sc es xs) = true := h
          simp only [Bool.and_eq_true, decide_eq_true_eq, Bool.or_eq_true, beq_iff_eq] at h'
          obtain ⟨⟨⟨⟨rfl, h1⟩, h2⟩, h3⟩, h4⟩ := h'
          obtain ⟨g1, g2⟩ := k.free h1
          match es, xs, h2, h3, h4 with
          | [m], [a], h2, _, h4 =>
            have z1 : (!isStar a && noStars []) = true := h2
            rw [Bool.and_eq_true, Bool.not_eq_true'] at z1
            have z2 : (ckE S lv N cf sc m a && ckB S lv N cf sc [] []) = true := h4
            rw [Bool.and_eq_true] at z2
            have ee : wpI Γ (.rng [m]) = wRng (w1L (wpX Γ m).val) := by
              show wRng (wpL Γ [m]) = _
              rw [wpL_cons (ckE_star z2.1)]
              rfl
            rw [ee]
            exact li_rng1 g1 g2 (sdE m k z2.1).1 (star_eq z1.1)
          | [m, m2], [a, b], h2, _, h4 =>
            have z1 : (!isStar a && (!isStar b && noStars [])) = true := h2
            simp only [Bool.and_eq_true, Bool.not_eq_true'] at z1
            have z2 : (ckE S lv N cf sc m a && (ckE S lv N cf sc m2 b && ckB S lv N cf sc [] [])) = true := h4
            simp only [Bool.and_eq_true] at z2
            have ee : wpI Γ (.rng [m, m2]) = wRng (w2L (wpX Γ m).val (wpX Γ m2).val) := by
              show wRng (wpL Γ [m, m2]) = _
              rw [wpL_cons (ckE_star z2.1), wpL_cons (ckE_star z2.2.1)]
              rfl
            rw [ee]
            exact li_rng2 g1 g2 (sdE m k z2.1).1 (sdE m2 k z2.2.1).1 (star_eq z1.1) (star_eq z1.2.1)
          | [m, m2, m3], [a, b, c], h2, _, h4 =>
            have z1 : (!isStar a && (!isStar b && (!isStar c && noStars []))) = true := h2
            simp only [Bool.and_eq_true, Bool.not_eq_true'] at z1
            have z2 : (ckE S lv N cf sc m a && (ckE S lv N cf sc m2 b && (ckE S lv N cf sc m3 c && ckB S lv N cf sc [] []))) = true := h4
            simp only [Bool.and_eq_true] at z2
            have ee : wpI Γ (.rng [m, m2, m3]) = wRng (w3L (wpX Γ m).val (wpX Γ m2).val (wpX Γ m3).val) := by
              show wRng (wpL Γ [m, m2, m3]) = _
              rw [wpL_cons (ckE_star z2.1), wpL_cons (ckE_star z2.2.1), wpL_cons (ckE_star z2.2.2.1)]
              rfl
            rw [ee]
            exact li_rng3 g1 g2 (sdE m k z2.1).1 (sdE m2 k z2.2.1).1 (sdE m3 k z2.2.2.1).1 (star_eq z1.1) (star_eq z1.2.1) (star_eq z1.2.2.1)
          | _, [], _, h3, _ => exact absurd h3 (by simp)
          | _, a :: b :: c :: d :: r, _, h3, _ => exact absurd h3 (by simp)
          | [], a :: r, _, _, h4 => exact ff h4 rfl
          | [m], a :: b :: r, _, _, h4 => exact ff h4 (by show (ckE S lv N cf sc m a && false) = false; rw [Bool.and_false])
          | m :: m2 :: r, [a], _, _, h4 => exact ff h4 (by show (ckE S lv N cf sc m a && false) = false; rw [Bool.and_false])
          | [m, m2], [a, b, c], _, _, h4 => exact ff h4 (by show (ckE S lv N cf sc m a && (ckE S lv N cf sc m2 b && false)) = false; rw [Bool.and_false, Bool.and_false])
          | m :: m2 :: m3 :: r, [a, b], _, _, h4 => exact ff h4 (by show (ckE S lv N cf sc m a && (ckE S lv N cf sc m2 b && false)) = false; rw [Bool.and_false, Bool.and_false])
          | m :: m2 :: m3 :: m4 :: r, [a, b, c], _, _, h4 => exact ff h4 (by show (ckE S lv N cf sc m a && (ckE S lv N cf sc m2 b && (ckE S lv N cf sc m3 c && false))) = false; rw [Bool.and_false, Bool.and_false, Bool.and_false])
        | cons => exact ff h rfl
      | _ => exact ff h rfl
    | _ => exact ff h rfl
  | .enum a, cf, sc, X, R, k, tg, e, h => by
    cases tg with
    | Tuple elts kk tp =>
      cases e with
      | Call g xs ks p =>
        cases g with
        | Name x q =>
          match xs, ks, h with
          | [y], [], h =>
            have h' : (decide (x = ("enumerate" : Str)) && freeB S sc x && !isStar y && ckE S lv N cf sc a y) = true := h
            simp only [Bool.and_eq_true, decide_eq_true_eq, Bool.not_eq_true'] at h'
            obtain ⟨⟨⟨rfl, h1⟩, h2⟩, h3⟩ := h'
            obtain ⟨g1, g2⟩ := k.free h1
            exact li_enum k.hK g1 g2 (sdE a k h3).1 (star_eq h2)
          | [], _, h => exact ff h rfl
          | _ :: _ :: _, _, h => exact ff h rfl
          | [_], _ :: _, h => exact ff h rfl
        | _ => exact ff h rfl
      | _ => exact ff h rfl
    | _ => exact ff h rfl
  | .zip a b, cf, sc, X, R, k, tg, e, h => by
    cases tg with
    | Tuple elts kk tp =>
      cases e with
      | Call g xs ks p =>
        cases g with
        | Name x q =>
          match xs, ks, h with
          | [y, z], [], h =>
            have h' : (decide (x = ("zip" : Str)) && freeB S sc x && !isStar y && !isStar z && ckE S lv N cf sc a y && ckE S lv N cf sc b z) = true := h
            simp only [Bool.and_eq_true, decide_eq_true_eq, Bool.not_eq_true'] at h'
            obtain ⟨⟨⟨⟨⟨rfl, h1⟩, h2⟩, h3⟩, h4⟩, h5⟩ := h'
            obtain ⟨g1, g2⟩ := k.free h1
            exact li_zip k.hK g1 g2 (sdE a k h4).1 (sdE b k h5).1 (star_eq h2) (star_eq h3)
          | [], _, h => exact ff h rfl
          | [_], _, h => exact ff h rfl
          | _ :: _ :: _ :: _, _, h => exact ff h rfl
          | [_, _], _ :: _, h => exact ff h rfl
        | _ => exact ff h rfl
      | _ => exact ff h rfl
    | _ => exact ff h rfl
end
end
end Mp

set_option Elab.async false
set_option linter.all false
set_option maxRecDepth 100000
set_option maxHeartbeats 4000000
/-! Mp, part K: statements: the check, its soundness; defs. -/
namespace Mp
open PySem PySem.Spec L2

/-- name = {k: v ..} on one line, the name a local -/
theorem ps_setDc {X : Cx} {i : Nat} {y : Str} {py : Pos} {kx vx tg iter : Expr} {ifs : List Expr} {scope : Scope} {own : List (Str × Nat)} {pos spos : Pos} {wi : TI} {g : TG} {tt : TT} {tk tv : TE} (hc : X.calm = true) (hN : X.N.Nodup) (hy : X.N[i]? = some y) (hyl : X.env.scope.names.lookup y = some .local)
    (hsw : swapsWith (.DictComp kx vx [⟨tg, iter, ifs, 0⟩] scope pos) (some (.Name y py)) spos.line X.env = pure true) (hi : PI X tg iter wi) (ok : BlkOk X.N X.env.scope scope own)
    (hg : ∀ (s : Shared) (H : Hp) (C : Addr) (cl : List (Str × Addr)) (fp : List Addr), PG (X.blk s H scope (compEnvC scope cl C X.env) fp) tg g) (ht : ∀ (s : Shared) (H : Hp) (C : Addr) (cl : List (Str × Addr)) (fp : List Addr), PTs (X.blk s H scope (compEnvC scope cl C X.env) fp) ifs tt)
    (hk : ∀ (s : Shared) (H : Hp) (C : Addr) (cl : List (Str × Addr)) (fp : List Addr), PE (X.blk s H scope (compEnvC scope cl C X.env) fp) kx tk)
    (he : ∀ (s : Shared) (H : Hp) (C : Addr) (cl : List (Str × Addr)) (fp : List Addr), PE (X.blk s H scope (compEnvC scope cl C X.env) fp) vx tv) (hs : ∀ x, foldedSetIterable iter X.env x = pure x) :
    PS X (.Assign [.Name y py] (.DictComp kx vx [⟨tg, iter, ifs, 0⟩] scope pos) spos) (tAsg (tDc wi g tt tk tv (own.map (·.2))) (gName i)) := by
  refine ⟨fun pins s σ H D I h => ?_⟩
  rw [exec_Assign_Name_used _ _ _ _ hsw]
  refine wpAny_bind (wpAny_standAt (wpAny_bind ?_))
  show wpAny _ X.A (do let _ ← comprehension (.DictComp kx vx [⟨tg, iter, ifs, 0⟩] scope pos) scope X.env (firstIterPos [⟨tg, iter, ifs, 0⟩] pos) newDict false (eval iter X.env) (some (assign (.Name y py) X.env))) _ _ s
  have h : tDc wi g tt tk tv (own.map (·.2)) σ H (fun x H1 => gName i x σ H1 D.nx) := h
  refine wpAny_bind (thn (dc_core (Qf := fun _ s' => SP X pins D .next s') hc hN I hi ok hg ht hk he hs h fun L C s' m H' I' q hn f => ?_) fun _ s' hq => wpAny_pure (wpAny_pure hq))
  show wpAny _ _ (assign (.Name y py) X.env (.ref L)) _ _ _
  refine wpAny_assign_Name (store_ok2 (v := V.ref L) I' hN hy (.inl hyl) rfl (fun s2 I2 ⟨a, sb, ha⟩ => ?_) (.inr hyl))
  obtain ⟨f0, f1, f2, f3, f4, f5⟩ := f
  have haC : C ≠ a := by
    rcases ha with z | z
    · rw [z]; exact f1
    · exact fun e => f4 y a z e.symm
  refine ⟨m, hn.sameBut sb haC, fun h3 sb3 => ?_⟩
  exact ⟨_, H', I2.turned (t' := s2.toks) (fun b o hb e => (sb3.2 b hb).trans e) f0 f1 f3 f4 f5, q⟩
theorem sw_trueD {kx vx : Expr} {gs : List Comprehension} {scope : Scope} {pos py : Pos} {y : Str} {l : Nat} {env : Env} (hk : env.scope.kind = .function) (hy : env.scope.names.lookup y = some .local) (hl : (py.line == pos.line) = true)
    (ha : (scope.names.any fun (n, k) => n == y && (k == .local || k == .cell)) = false) : swapsWith (.DictComp kx vx gs scope pos) (some (.Name y py)) l env = pure true := by
  have ky : env.kindOf y = some .local := hy
  have hb : env.blockKind = .function := by unfold Env.blockKind; rw [hk]; rfl
  unfold swapsWith
  simp only [hb, ky, ha, Expr.pos, hl]
  rfl
/-- a pair of plain locals is stored from the right -/
def swapB (sc : Scope) (ts vs : List Expr) : Bool := (ts.length == 2 || ts.length == 3) && vs.length == ts.length && decide (sc.kind = .function) && noStars vs && !(vs.all (foldedForSure 8)) && !(vs.all (constantsAlone 8))
/-- nothing is swapped -/
def locN (sc : Scope) : Expr → Bool
  | .Name x _ => decide (sc.names.lookup x = some .local)
  | _ => false
theorem fm_all {α β : Type} {f : α → Option β} : ∀ {l : List α}, (l.filterMap f).length = l.length → ∀ a ∈ l, (f a).isSome = true
  | [], _, a, h => by cases h
  | x :: l, hl, a, h => by
    have le := List.length_filterMap_le f l
    rw [List.filterMap_cons] at hl
    cases e : f x with
    | none =>
      rw [e] at hl
      dsimp only at hl
      rw [List.length_cons] at hl
      omega
    | some y =>
      rw [e] at hl
      dsimp only at hl
      rw [List.length_cons, List.length_cons] at hl
      rcases List.mem_cons.mp h with rfl | h
      · rw [e]; rfl
      · exact fm_all (by omega) a h
def noSwap (sc : Scope) (t v : Expr) : Bool := match t, v with
  | .Tuple ts _ _, .Tuple vs _ _ => vs.all (foldedForSure 8) || decide (3 < vs.length) || !(ts.all (locN sc))
  | .List _ _, .Tuple vs _ _ => false
  | _, _ => true
theorem nostar_any2 : ∀ {vs : List Expr}, noStars vs = true → (vs.any fun | .Starred .. => true | _ => false) = false
  | [], _ => rfl
  | v :: vs, h => by
    have h' : (!isStar v && noStars vs) = true := h
    rw [Bool.and_eq_true, Bool.not_eq_true'] at h'
    rw [List.any_cons, nostar_any2 h'.2, Bool.or_false]
    cases v <;> first | rfl | cases h'.1
def isTupT : Expr → Bool
  | .Tuple _ _ _ => true
  | _ => false
theorem sw_tup {t v : Expr} {l : Nat} {env : Env} (h : (!isComp v || isTupT t) = true) : swapsWith v (some t) l env = pure false := by
  rw [Bool.or_eq_true, Bool.not_eq_true'] at h
  rcases h with h | h
  · exact sw_eq h
  · cases t <;> first | (cases v <;> rfl) | (cases h; done)
theorem noswap_eq {t v : Expr} {env : Env} (h : noSwap env.scope t v = true) : swappedStores [t] v env = pure none := by
  cases t with
  | Tuple ts k p =>
    cases v with
    | Tuple vs k2 p2 =>
      have h' : (vs.all (foldedForSure 8) || decide (3 < vs.length) || !(ts.all (locN env.scope))) = true := h
      unfold swappedStores
      dsimp only
      split
      · rfl
      · rename_i hn
        split
        · rfl
        · split
          · rfl
          · rename_i hn3
            simp only [Bool.or_eq_true, decide_eq_true_eq, Bool.not_eq_true'] at h'
            rcases h' with (h' | h') | h'
            · rw [if_pos h']
            · exfalso
              apply hn
              by_cases hl : vs.length = ts.length
              · have n2 : ts.length ≠ 2 := by omega
                have n3 : ts.length ≠ 3 := by omega
                simp [n2, n3]
              · simp [hl]
            · exfalso
              apply hn3
              rw [Bool.or_eq_true]
              left
              rw [bne_iff_ne]
              intro e
              have q := fm_all e
              refine absurd h' (by
                rw [Bool.not_eq_false]
                refine List.all_eq_true.mpr fun t ht => ?_
                have z := q t ht
                cases t with
                | Name id ps =>
                  dsimp only at z
                  split at z
                  · rename_i hc
                    rw [Bool.and_eq_true, beq_iff_eq] at hc
                    exact decide_eq_true hc.1
                  · cases z
                | _ => cases z)
    | _ => rfl
  | List ts p =>
    cases v <;> first | rfl | cases h
  | _ => cases v <;> rfl
theorem swap2_eq {x y : Str} {px py pt pt2 : Pos} {a b : Expr} {kt k2 : Nat} {env : Env} (h : swapB env.scope [.Name x px, .Name y py] [a, b] = true) (hx : env.scope.names.lookup x = some .local) (hy : env.scope.names.lookup y = some .local) (hne : x ≠ y) (hl : (py.line == px.line) = true) :
    swappedStores [.Tuple [.Name x px, .Name y py] kt pt] (.Tuple [a, b] k2 pt2) env = pure (some [x, y]) := by
  unfold swapB at h
  simp only [Bool.and_eq_true, decide_eq_true_eq, Bool.not_eq_true'] at h
  obtain ⟨⟨⟨⟨⟨h1, h2⟩, h3⟩, h4⟩, h5⟩, h6⟩ := h
  have hb : env.blockKind = .function := by unfold Env.blockKind; rw [h3]; rfl
  have kx : env.kindOf x = some .local := hx
  have ky : env.kindOf y = some .local := hy
  have hl' : py.line = px.line := beq_iff_eq.mp hl
  have n1 : ¬ y = x := fun z => hne z.symm
  unfold swappedStores
  dsimp only
  split
  · rename_i hc
    simp [hb] at hc
  · split
    · rename_i hc
      exact absurd (hc.symm.trans (nostar_any2 h4)) (by decide)
    · split
      · rename_i hc
        exfalso
        revert hc
        simp [kx, ky, hl', Expr.pos, List.eraseDups_cons, n1]
      · split
        · rename_i hc
          exact absurd (hc.symm.trans h5) (by decide)
        · split
          · rename_i hc
            exact absurd (hc.symm.trans h6) (by decide)
          · simp [kx, ky, hl', Expr.pos]
theorem swap3_eq {x y z : Str} {px py pz pt pt2 : Pos} {a b c : Expr} {kt k2 : Nat} {env : Env} (h : swapB env.scope [.Name x px, .Name y py, .Name z pz] [a, b, c] = true) (hx : env.scope.names.lookup x = some .local) (hy : env.scope.names.lookup y = some .local) (hz : env.scope.names.lookup z = some .local) (h12 : x ≠ y) (h13 : x ≠ z) (h23 : y ≠ z)
    (hl : (py.line == px.line) = true) (hl2 : (pz.line == px.line) = true) :
    swappedStores [.Tuple [.Name x px, .Name y py, .Name z pz] kt pt] (.Tuple [a, b, c] k2 pt2) env = pure (some [x, y, z]) := by
  unfold swapB at h
  simp only [Bool.and_eq_true, decide_eq_true_eq, Bool.not_eq_true'] at h
  obtain ⟨⟨⟨⟨⟨h1, h2⟩, h3⟩, h4⟩, h5⟩, h6⟩ := h
  have hb : env.blockKind = .function := by unfold Env.blockKind; rw [h3]; rfl
  have kx : env.kindOf x = some .local := hx
  have ky : env.kindOf y = some .local := hy
  have kz : env.kindOf z = some .local := hz
  have hl' : py.line = px.line := beq_iff_eq.mp hl
  have hl2' : pz.line = px.line := beq_iff_eq.mp hl2
  have n1 : ¬ y = x := fun z => h12 z.symm
  have n2 : ¬ z = x := fun q => h13 q.symm
  have n3 : ¬ z = y := fun q => h23 q.symm
  unfold swappedStores
  dsimp only
  split
  · rename_i hc
    simp [hb] at hc
  · split
    · rename_i hc
      exact absurd (hc.symm.trans (nostar_any2 h4)) (by decide)
    · split
      · rename_i hc
        exfalso
        revert hc
        simp [kx, ky, kz, hl', hl2', Expr.pos, List.eraseDups_cons, n1, n2, n3]
      · split
        · rename_i hc
          exact absurd (hc.symm.trans h5) (by decide)
        · split
          · rename_i hc
            exact absurd (hc.symm.trans h6) (by decide)
          · simp [kx, ky, kz, hl', hl2', Expr.pos]

/-! ### the check of statements -/
def lcB (sc : Scope) (x : Str) : Bool := decide (sc.names.lookup x = some .local)
/-- a comprehension is stored at once -/
def swC1 (sc : Scope) (x : Str) (p : Pos) : Expr → Bool
  | .ListComp _ _ scope pos => decide (sc.kind = .function) && lcB sc x && (p.line == pos.line) && !(scope.names.any fun (n, k) => n == x && (k == .local || k == .cell))
  | .DictComp _ _ _ scope pos => decide (sc.kind = .function) && lcB sc x && (p.line == pos.line) && !(scope.names.any fun (n, k) => n == x && (k == .local || k == .cell))
  | _ => false
theorem sw_cell {v : Expr} {x : Str} {p : Pos} {l : Nat} {env : Env} (h : env.scope.names.lookup x ≠ some .local) : swapsWith v (some (.Name x p)) l env = pure false := by
  have hk : (env.kindOf x == some NameKind.local) = false := beq_eq_false_iff_ne.mpr h
  cases v with
  | ListComp => unfold swapsWith; simp [hk]
  | SetComp => unfold swapsWith; simp [hk]
  | DictComp => unfold swapsWith; simp [hk]
  | _ => rfl
def swC (sc : Scope) (x : Str) (p : Pos) : Expr → Bool
  | .ListComp a b scope pos => !lcB sc x || swC1 sc x p (.ListComp a b scope pos)
  | .DictComp a b c scope pos => !lcB sc x || swC1 sc x p (.DictComp a b c scope pos)
  | .SetComp _ _ _ _ => false
  | _ => true
def noTup : Expr → Bool
  | .Tuple _ _ _ => false
  | .List _ _ => false
  | _ => true
mutual
def ckS (S : Sy) (lv : Nat) (N : List Str) (cf : Bool) (sc : Scope) : MS → Stmt → Bool
  | .asg i e, st => match st with
    | .Assign [.Name x p] v _ => decide (N[i]? = some x) && locB cf sc x && ckE S lv N cf sc e v && swC sc x p v
    | _ => false
  | .par is es, st => match st with
    | .Assign [.Tuple [.Name x px, .Name y py] _ _] (.Tuple [a, b] _ _) _ => (match is with
      | [i, j] => decide (N[i]? = some x) && decide (N[j]? = some y) && decide (i ≠ j) && lcB sc x && lcB sc y && (py.line == px.line) && swapB sc [.Name x px, .Name y py] [a, b] && ckL S lv N cf sc es [a, b]
      | _ => false)
    | .Assign [.Tuple [.Name x px, .Name y py, .Name z pz] _ _] (.Tuple [a, b, c] _ _) _ => (match is with
      | [i, j, l] => decide (N[i]? = some x) && decide (N[j]? = some y) && decide (N[l]? = some z) && decide (i ≠ j) && decide (i ≠ l) && decide (j ≠ l) && lcB sc x && lcB sc y && lcB sc z && (py.line == px.line) && (pz.line == px.line) && swapB sc [.Name x px, .Name y py, .Name z pz] [a, b, c] && ckL S lv N cf sc es [a, b, c]
      | _ => false)
    | _ => false
  | .tasg tg e, st => match st with
    | .Assign [t] v _ => ckTg N (fun _ => cf) sc tg t && ckE S lv N cf sc e v && (!isComp v || isTupT t) && noSwap sc t v
    | _ => false
  | .setF o c i e, st => match st with
    | .Assign [.Attribute o' m _] v _ => ckE S lv N cf sc o o' && ckE S lv N cf sc e v && !isComp v && clB S c fun s => decide (s.fl[i]? = some m)
    | _ => false
  | .setI o i e, st => match st with
    | .Assign [.Subscript o' i' _] v _ => ckE S lv N cf sc o o' && ckE S lv N cf sc i i' && !isSl i' && ckE S lv N cf sc e v && !isComp v
    | _ => false
  | .aug i op e, st => match st with
    | .AugAssign (.Name x _) o v _ => decide (N[i]? = some x) && locB cf sc x && decide (op = o) && ckE S lv N cf sc e v
    | _ => false
  | .expr e, st => match st with
    | .Expr v _ => ckE S lv N cf sc e v && !isComp v
    | _ => false
  | .ite t a b, st => match st with
    | .If c x y _ => ckE S lv N cf sc t c && ckSs S lv N cf sc a x && ckSs S lv N cf sc b y
    | _ => false
  | .for tg it b, st => match st with
    | .For t i x [] _ => ckTg N (fun _ => cf) sc tg t && ckI S lv N cf sc it t i && !isSet i && ckSs S lv N cf sc b x
    | _ => false
  | .while t b, st => match st with
    | .While c x [] _ => ckE S lv N cf sc t c && ckSs S lv N cf sc b x
    | _ => false
  | .ret e, st => match st with
    | .Return (some v) _ => ckE S lv N cf sc e v
    | _ => false
  | .retN, st => match st with
    | .Return none _ => true
    | _ => false
  | .pass, st => match st with
    | .Pass _ => true
    | .Expr (.Constant (.str _) _ _) _ => true
    | _ => false
  | .brk, st => match st with
    | .Break _ => true
    | _ => false
  | .cnt, st => match st with
    | .Continue _ => true
    | _ => false
  | .never, _ => true
def ckSs (S : Sy) (lv : Nat) (N : List Str) (cf : Bool) (sc : Scope) : List MS → List Stmt → Bool
  | [], xs => match xs with
    | [] => true
    | _ => false
  | m :: ms, xs => match xs with
    | [] => false
    | x :: xs => ckS S lv N cf sc m x && ckSs S lv N cf sc ms xs
end
section
variable {T : Tb} {S : Sy} {Γ : Specs} {lv : Nat} {N : List Str} {cf : Bool} {sc : Scope} {X : Cx} {R : Rg}
theorem Cok.lc (k : Cok T S Γ lv N cf sc X R) {x : Str} (h : lcB sc x = true) : X.env.scope.names.lookup x = some .local := by
  have e := of_decide_eq_true h
  rw [← k.hsc] at e
  exact e
theorem asg_ok (k : Cok T S Γ lv N cf sc X R) {i : Nat} {e : ME} {x : Str} {p pos : Pos} {v : Expr} (h1 : N[i]? = some x) (h2 : locB cf sc x = true) (h3 : ckE S lv N cf sc e v = true) (h4 : swC sc x p v = true) :
    PS X (.Assign [.Name x p] v pos) (tAsg (LE T R (wpX Γ e).val) (gName i)) := by
  have hN : X.N.Nodup := by rw [k.hN]; exact k.nd
  have hi : X.N[i]? = some x := by rw [k.hN]; exact h1
  by_cases hl : lcB sc x = false
  · obtain ⟨l1, l2⟩ := k.loc h2
    have hn : X.env.scope.names.lookup x ≠ some .local := by
      rw [k.hsc]
      exact of_decide_eq_false hl
    exact ps_set hN hi l1 (sdE e k h3).1 (sw_cell hn) l2
  have hl : lcB sc x = true := by simpa using hl
  by_cases hc : isComp v = true
  · cases v with
    | ListComp y gs scope vp =>
      have h4 : swC1 sc x p (.ListComp y gs scope vp) = true := by
        have z : (!lcB sc x || swC1 sc x p (.ListComp y gs scope vp)) = true := h4
        rw [hl] at z
        exact z
      have h4' : (decide (sc.kind = .function) && lcB sc x && (p.line == vp.line) && !(scope.names.any fun (n, k) => n == x && (k == .local || k == .cell))) = true := h4
      simp only [Bool.and_eq_true, decide_eq_true_eq, Bool.not_eq_true'] at h4'
      obtain ⟨⟨⟨z1, z2⟩, z3⟩, z4⟩ := h4'
      cases e with
      | comp mu elt tg it cs own =>
        match gs, h3 with
        | [⟨t, it', ifs, ia⟩], h3 =>
          have h' : (decide (ia = 0) && decide (sc.kind = .function) && blkC N sc scope own && ((mtIx tg).all fun i => (own.map (·.2)).contains i) && !isSet it' && ckI S lv N cf sc it t it' && ckTg N (cellP scope) (relS scope sc) tg t && ckT S lv N false (relS scope sc) cs ifs && ckE S lv N false (relS scope sc) elt y) = true := h3
          simp only [Bool.and_eq_true, decide_eq_true_eq, Bool.not_eq_true'] at h'
          obtain ⟨⟨⟨⟨⟨⟨⟨⟨rfl, w1⟩, w2⟩, w3⟩, w4⟩, w5⟩, w6⟩, w7⟩, w8⟩ := h'
          have hv : ∀ i ∈ mtIx tg, i ∈ own.map (·.2) := fun i hi => by simpa using List.all_eq_true.mp w3 i hi
          exact PSi (ps_setLc k.calm hN hi (k.lc z2) (sw_true (by rw [k.hsc]; exact z1) (k.lc z2) z3 z4) (sdI it k w5) (by rw [k.hN, k.hsc]; exact blkOk_by w2) (fun s H C cl fp => tg_ok (k.blk s H C cl fp scope) (fun x e => e) w6) (fun s H C cl fp => sdT cs (k.blk s H C cl fp scope) w7) (fun s H C cl fp => (sdE elt (k.blk s H C cl fp scope) w8).1) (set_eq w4)) fun D σ H h => comp_imp hv h
        | [], h => exact ff h rfl
        | ⟨t, it', ifs, ia⟩ :: _ :: _, h => exact ff h rfl
      | _ => exact ff h3 rfl
    | DictComp y2 y gs scope vp =>
      have h4 : swC1 sc x p (.DictComp y2 y gs scope vp) = true := by
        have z : (!lcB sc x || swC1 sc x p (.DictComp y2 y gs scope vp)) = true := h4
        rw [hl] at z
        exact z
      have h4' : (decide (sc.kind = .function) && lcB sc x && (p.line == vp.line) && !(scope.names.any fun (n, k) => n == x && (k == .local || k == .cell))) = true := h4
      simp only [Bool.and_eq_true, decide_eq_true_eq, Bool.not_eq_true'] at h4'
      obtain ⟨⟨⟨z1, z2⟩, z3⟩, z4⟩ := h4'
      cases e with
      | dcomp mu kx vx tg it cs own =>
        match gs, h3 with
        | [⟨t, it', ifs, ia⟩], h3 =>
          have h' : (decide (ia = 0) && decide (sc.kind = .function) && blkC N sc scope own && ((mtIx tg).all fun i => (own.map (·.2)).contains i) && !isSet it' && ckI S lv N cf sc it t it' && ckTg N (cellP scope) (relS scope sc) tg t && ckT S lv N false (relS scope sc) cs ifs && ckE S lv N false (relS scope sc) kx y2 && ckE S lv N false (relS scope sc) vx y) = true := h3
          simp only [Bool.and_eq_true, decide_eq_true_eq, Bool.not_eq_true'] at h'
          obtain ⟨⟨⟨⟨⟨⟨⟨⟨⟨rfl, w1⟩, w2⟩, w3⟩, w4⟩, w5⟩, w6⟩, w7⟩, w9⟩, w8⟩ := h'
          have hv : ∀ i ∈ mtIx tg, i ∈ own.map (·.2) := fun i hi => by simpa using List.all_eq_true.mp w3 i hi
          exact PSi (ps_setDc k.calm hN hi (k.lc z2) (sw_trueD (by rw [k.hsc]; exact z1) (k.lc z2) z3 z4) (sdI it k w5) (by rw [k.hN, k.hsc]; exact blkOk_by w2) (fun s H C cl fp => tg_ok (k.blk s H C cl fp scope) (fun x e => e) w6) (fun s H C cl fp => sdT cs (k.blk s H C cl fp scope) w7) (fun s H C cl fp => (sdE kx (k.blk s H C cl fp scope) w9).1) (fun s H C cl fp => (sdE vx (k.blk s H C cl fp scope) w8).1) (set_eq w4)) fun D σ H h => dcomp_imp hv h
        | [], h => exact ff h rfl
        | ⟨t, it', ifs, ia⟩ :: _ :: _, h => exact ff h rfl
      | _ => exact ff h3 rfl
    | SetComp => cases h4
    | _ => cases hc
  · have hc : isComp v = false := by simpa using hc
    obtain ⟨l1, l2⟩ := k.loc h2
    exact ps_set hN hi l1 (sdE e k h3).1 (sw_eq hc) l2
theorem nd_inj {α : Type} {l : List α} {i j : Nat} (nd : l.Nodup) (a1 : i < l.length) (a2 : j < l.length) (e : l[i] = l[j]) : i = j := by
  by_cases h : i = j
  · exact h
  · rcases Nat.lt_or_gt_of_ne h with z | z
    · exact absurd e (List.pairwise_iff_getElem.mp nd i j a1 a2 z)
    · exact absurd e.symm (List.pairwise_iff_getElem.mp nd j i a2 a1 z)
theorem sub_as {o i : Expr} {pos : Pos} {env : Env} (h : isSl i = false) : ∀ v, assign (.Subscript o i pos) env v = (do
      let ov ← holding [v] (eval o env)
      let iv ← holding [v, ov] (eval i env)
      standAt pos
      holding [v, ov, iv] (setItem ov iv v)
      release [v, ov, iv] []) := by
  intro v
  cases i <;> first | rfl | cases h
end
section
variable {T : Tb} {S : Sy} {Γ : Specs} {lv : Nat} {N : List Str} {cf : Bool} {sc : Scope} {X : Cx} {R : Rg}
mutual
theorem sdS (k : Cok T S Γ lv N cf sc X R) (hp : PassesOwn (model X.prog X.w) X.A X.env X.xe) : ∀ (m : MS) {st : Stmt}, ckS S lv N cf sc m st = true → PS X st (LS T R (wpS Γ m))
  | .asg i e, st, h => by
    cases st with
    | Assign ts v pos =>
      match ts, h with
      | [t], h =>
        cases t with
        | Name x p =>
            have h' : (decide (N[i]? = some x) && locB cf sc x && ckE S lv N cf sc e v && swC sc x p v) = true := h
            simp only [Bool.and_eq_true, decide_eq_true_eq] at h'
            obtain ⟨⟨⟨h1, h2⟩, h3⟩, h4⟩ := h'
            exact ls_asg (asg_ok k h1 h2 h3 h4)
        | _ => exact ff h rfl
      | [], h => exact ff h rfl
      | t :: _ :: _, h => exact (by cases t <;> exact ff h rfl)
    | _ => exact ff h rfl
  | .par is es, st, h => by
    unfold ckS at h
    split at h
    · rename_i x px y py kt pt a b k2 pt2 pos
      split at h
      · rename_i i j
        have h' : (decide (N[i]? = some x) && decide (N[j]? = some y) && decide (i ≠ j) && lcB sc x && lcB sc y && (py.line == px.line) && swapB sc [.Name x px, .Name y py] [a, b] && ckL S lv N cf sc es [a, b]) = true := h
        simp only [Bool.and_eq_true, decide_eq_true_eq] at h'
        obtain ⟨⟨⟨⟨⟨⟨⟨h1, h2⟩, h3⟩, h4⟩, h5⟩, h6⟩, h7⟩, h8⟩ := h'
        have hne : x ≠ y := fun e => h3 (by
          have nd := k.nd
          obtain ⟨a1, b1⟩ := List.getElem?_eq_some_iff.mp h1
          obtain ⟨a2, b2⟩ := List.getElem?_eq_some_iff.mp h2
          exact nd_inj nd a1 a2 (by rw [b1, b2, e]))
        exact ls_par2 (ps_par k.calm (by rw [k.hN]; exact k.nd) (by rw [k.hN]; exact h1) (by rw [k.hN]; exact h2) h3 (k.lc h4) (k.lc h5) (sdL es k h8) (swap2_eq (by rw [k.hsc]; exact h7) (k.lc h4) (k.lc h5) hne h6))
      · cases h
    · rename_i x px y py z pz kt pt a b c k2 pt2 pos
      split at h
      · rename_i i j l
        have h' : (decide (N[i]? = some x) && decide (N[j]? = some y) && decide (N[l]? = some z) && decide (i ≠ j) && decide (i ≠ l) && decide (j ≠ l) && lcB sc x && lcB sc y && lcB sc z && (py.line == px.line) && (pz.line == px.line) && swapB sc [.Name x px, .Name y py, .Name z pz] [a, b, c] && ckL S lv N cf sc es [a, b, c]) = true := h
        simp only [Bool.and_eq_true, decide_eq_true_eq] at h'
        obtain ⟨⟨⟨⟨⟨⟨⟨⟨⟨⟨⟨⟨h1, h2⟩, h3⟩, n1⟩, n2⟩, n3⟩, l1⟩, l2⟩, l3⟩, q1⟩, q2⟩, h7⟩, h8⟩ := h'
        have ne : ∀ {i j : Nat} {x y : Str}, N[i]? = some x → N[j]? = some y → i ≠ j → x ≠ y := fun {i j x y} h1 h2 h3 e => h3 (by
          have nd := k.nd
          obtain ⟨a1, b1⟩ := List.getElem?_eq_some_iff.mp h1
          obtain ⟨a2, b2⟩ := List.getElem?_eq_some_iff.mp h2
          exact nd_inj nd a1 a2 (by rw [b1, b2, e]))
        exact ls_par3 (ps_par3 k.calm (by rw [k.hN]; exact k.nd) (by rw [k.hN]; exact h1) (by rw [k.hN]; exact h2) (by rw [k.hN]; exact h3) n1 n2 n3 (k.lc l1) (k.lc l2) (k.lc l3) (sdL es k h8) (swap3_eq (by rw [k.hsc]; exact h7) (k.lc l1) (k.lc l2) (k.lc l3) (ne h1 h2 n1) (ne h1 h3 n2) (ne h2 h3 n3) q1 q2))
      · cases h
    · cases h
  | .tasg tg e, st, h => by
    cases st with
    | Assign ts v pos =>
      match ts, h with
      | [t], h =>
        have h' : (ckTg N (fun _ => cf) sc tg t && ckE S lv N cf sc e v && (!isComp v || isTupT t) && noSwap sc t v) = true := h
        simp only [Bool.and_eq_true] at h'
        obtain ⟨⟨⟨h1, h2⟩, h3⟩, h4⟩ := h'
        refine ls_tasg (sdE e k h2).1 (tg_ok k (fun x e => k.fn e x) h1) (sw_tup h3) (noswap_eq (by rw [k.hsc]; exact h4)) ?_
        cases t <;> first | rfl | (cases tg <;> exact ff h1 rfl)
      | [], h => exact ff h rfl
      | _ :: _ :: _, h => exact ff h rfl
    | _ => exact ff h rfl
  | .setF o c i e, st, h => by
    cases st with
    | Assign ts v pos =>
      match ts, h with
      | [t], h =>
        cases t with
        | Attribute o' m p =>
            have h' : (ckE S lv N cf sc o o' && ckE S lv N cf sc e v && !isComp v && clB S c fun s => decide (s.fl[i]? = some m)) = true := h
            simp only [Bool.and_eq_true, Bool.not_eq_true'] at h'
            obtain ⟨⟨⟨h1, h2⟩, h3⟩, h4⟩ := h'
            obtain ⟨s, e1, e2⟩ := clB_of h4
            have e2 := of_decide_eq_true e2
            obtain ⟨c1, c2, c3, c4, c5⟩ := k.fct.cl c s e1
            exact ls_setF k.hK (sdE o k h1).1 (sdE e k h2).1 c1 (k.fct.noat c s m e1 (List.mem_of_getElem? e2)) (by rw [c3]; exact c4) (by rw [c3]; exact e2) (by rw [c3]; exact c5) (sw_eq h3)
        | _ => exact ff h rfl
      | [], h => exact ff h rfl
      | t :: _ :: _, h => exact (by cases t <;> exact ff h rfl)
    | _ => exact ff h rfl
  | .setI o i e, st, h => by
    cases st with
    | Assign ts v pos =>
      match ts, h with
      | [t], h =>
        cases t with
        | Subscript o' i' p =>
            have h' : (ckE S lv N cf sc o o' && ckE S lv N cf sc i i' && !isSl i' && ckE S lv N cf sc e v && !isComp v) = true := h
            simp only [Bool.and_eq_true, Bool.not_eq_true'] at h'
            obtain ⟨⟨⟨⟨h1, h2⟩, h3⟩, h4⟩, h5⟩ := h'
            exact ls_setI rfl (ps_asg (sdE e k h4).1 (pg_sub (sdE o k h1).1 (sdE i k h2).1 (setI_ok k.un) (sub_as h3)) (hs := (sw_eq (t := some (Expr.Subscript o' i' p)) (l := pos.line) (env := X.env) h5 : _)) (hw := noswap_eq (by cases v <;> rfl)) (h1 := rfl))
        | _ => exact ff h rfl
      | [], h => exact ff h rfl
      | t :: _ :: _, h => exact (by cases t <;> exact ff h rfl)
    | _ => exact ff h rfl
  | .aug i op e, st, h => by
    cases st with
    | AugAssign t o v pos =>
      cases t with
      | Name x p =>
        have h' : (decide (N[i]? = some x) && locB cf sc x && decide (op = o) && ckE S lv N cf sc e v) = true := h
        simp only [Bool.and_eq_true, decide_eq_true_eq] at h'
        obtain ⟨⟨⟨h1, h2⟩, rfl⟩, h4⟩ := h'
        obtain ⟨l1, l2⟩ := k.loc h2
        exact ls_aug fun ti hi => ps_aug (by rw [k.hN]; exact k.nd) (by rw [k.hN]; exact h1) l1 (sdE e k h4).1 hi l2
      | _ => exact ff h rfl
    | _ => exact ff h rfl
  | .expr e, st, h => by
    cases st with
    | Expr v pos =>
      have h' : (ckE S lv N cf sc e v && !isComp v) = true := h
      simp only [Bool.and_eq_true, Bool.not_eq_true'] at h'
      exact ls_expr (sdE e k h'.1).1 (sw_eq h'.2)
    | _ => exact ff h rfl
  | .ite t a b, st, h => by
    cases st with
    | If c x y pos =>
      have h' : (ckE S lv N cf sc t c && ckSs S lv N cf sc a x && ckSs S lv N cf sc b y) = true := h
      simp only [Bool.and_eq_true] at h'
      obtain ⟨⟨h1, h2⟩, h3⟩ := h'
      exact ls_if (sdE t k h1).2 (sdSs k hp a h2) (sdSs k hp b h3)
    | _ => exact ff h rfl
  | .for tg it b, st, h => by
    cases st with
    | For t i x y pos =>
      cases y with
      | nil =>
        have h' : (ckTg N (fun _ => cf) sc tg t && ckI S lv N cf sc it t i && !isSet i && ckSs S lv N cf sc b x) = true := h
        simp only [Bool.and_eq_true, Bool.not_eq_true'] at h'
        obtain ⟨⟨⟨h1, h2⟩, h3⟩, h4⟩ := h'
        exact ls_for hp k.calm (sdI it k h2) (tg_ok k (fun x e => k.fn e x) h1) (sdSs k hp b h4) (set_eq h3)
      | cons => exact ff h rfl
    | _ => exact ff h rfl
  | .while t b, st, h => by
    cases st with
    | While c x y pos =>
      cases y with
      | nil =>
        have h' : (ckE S lv N cf sc t c && ckSs S lv N cf sc b x) = true := h
        simp only [Bool.and_eq_true] at h'
        exact ls_while hp (sdE t k h'.1).2 (sdSs k hp b h'.2)
      | cons => exact ff h rfl
    | _ => exact ff h rfl
  | .ret e, st, h => by
    cases st with
    | Return v pos =>
      cases v with
      | some v => exact ls_ret (sdE e k (show ckE S lv N cf sc e v = true from h)).1
      | none => exact ff h rfl
    | _ => exact ff h rfl
  | .retN, st, h => by
    cases st with
    | Return v pos =>
      cases v with
      | some v => exact ff h rfl
      | none => exact ls_retN
    | _ => exact ff h rfl
  | .pass, st, h => by
    cases st with
    | Pass pos => exact ls_pass
    | Expr v pos =>
      cases v with
      | Constant c j p =>
        cases c with
        | str x => exact ls_doc
        | _ => exact ff h rfl
      | _ => exact ff h rfl
    | _ => exact ff h rfl
  | .brk, st, h => by
    cases st with
    | Break pos => exact ls_brk
    | _ => exact ff h rfl
  | .cnt, st, h => by
    cases st with
    | Continue pos => exact ls_cnt
    | _ => exact ff h rfl
  | .never, st, h => ls_never
theorem sdSs (k : Cok T S Γ lv N cf sc X R) (hp : PassesOwn (model X.prog X.w) X.A X.env X.xe) : ∀ (ms : List MS) {sts : List Stmt}, ckSs S lv N cf sc ms sts = true → PSs X sts (LS T R (wpSs Γ ms))
  | [], sts, h => by
    cases sts with
    | nil => exact ls_nil
    | cons => exact ff h rfl
  | m :: ms, sts, h => by
    cases sts with
    | nil => exact ff h rfl
    | cons x xs =>
      have h' : (ckS S lv N cf sc m x && ckSs S lv N cf sc ms xs) = true := h
      rw [Bool.and_eq_true] at h'
      exact ls_cons (w := wpS Γ m) (ws := wpSs Γ ms) (sdS k hp m h'.1) (sdSs k hp ms h'.2)
end
end
end Mp

set_option Elab.async false
set_option linter.all false
set_option maxRecDepth 100000
set_option maxHeartbeats 4000000
/-! Mp, part L: a def keeps its promise; all defs of a table. -/
namespace Mp
open PySem PySem.Spec L2

/-- the slots at a def's entry -/
def ro0 (N : List Str) (ds : List D) : Ro := ds.map some ++ List.replicate (N.length - ds.length) none
theorem sr_start {T : Tb} {G : Hp} {N : List Str} {ds : List D} {vs : List V} (h : Reps T G ds vs) : SR T G (L2.start N vs) (ro0 N ds) ∧ (ro0 N ds).length = (L2.start N vs).length := by
  unfold L2.start ro0
  refine ⟨fun i d q => ?_, by simp [h.len]⟩
  by_cases hi : i < ds.length
  · rw [List.getElem?_append_left (by simpa using hi), List.getElem?_map] at q
    cases e : ds[i]? with
    | none => rw [e] at q; cases q
    | some d' =>
      rw [e] at q
      cases q
      obtain ⟨v, e2, r⟩ := h.get e
      refine ⟨v, ?_, r⟩
      rw [List.getElem?_append_left (by rw [List.length_map, h.len]; exact hi), List.getElem?_map, e2]
      rfl
  · rw [List.getElem?_append_right (by simpa using hi), List.getElem?_replicate] at q
    split at q <;> cases q
/-- the end wished for of a def's body -/
def fnEn (P : D → Cs → Prop) (PX : Exc → Cs → Prop) : En := ⟨fun _ C => P .non C, P, fun _ _ => False, fun _ _ => False, fun e _ C => PX e C⟩
theorem fn_ok {T : Tb} {S : Sy} {Γ : Specs} {P : Program} {w : World} {base : Heap} {f lv : Nat} {d : DfS} {name qual : Str} {params : Arguments} {body : List Stmt} {scope : Scope} {dvs : List V} {kws : List (Str × V)} {N : List Str} {ms : List MS}
    (fct : Fct T S) (hlv : d.lv = lv + 1) (F : FunD T.K name qual params body scope dvs kws (T.fa f) (T.fd f)) (Sc : FnScope N d.ps scope) (hb : ckSs S lv N true scope ms body = true)
    (fok : ∀ g d', S.dfs[g]? = some d' → d'.lv ≤ lv → FnOk P w T.K T.mg base (L2.CX P w) d'.lv (T.fa g) (T.fd g) d'.ps (spL T (Γ g) d'.ps.length)) (sl : ∀ g d', S.dfs[g]? = some d' → ∀ ds C Q PX, Γ g ds C Q PX → ds.length = d'.ps.length)
    (spec : ∀ ds C Q PX, Γ f ds C Q PX → wpSs Γ ms (ro0 N ds) C (fnEn Q PX)) :
    FnOk P w T.K T.mg base (L2.CX P w) d.lv (T.fa f) (T.fd f) d.ps (spL T (Γ f) d.ps.length) := by
  rw [hlv]
  refine fnd_ok F Sc (fun vs H Q E h => spL_len h) fun cdv A outer s H vs Q E hr h => ?_
  obtain ⟨G, C, ds, K, PX, rel, hR, hl, hs, q1, q2⟩ := h
  obtain ⟨sr, sl0⟩ := sr_start (N := N) hR
  let R : Rg := ⟨fun cls dd _ H' => E cls dd H', fun e _ C' => PX e C', G, H, C⟩
  refine ⟨LS T R (wpSs Γ ms), ?_, G, ro0 N ds, C, fnEn K PX, ⟨rel, sr, sl0, Fr.refl⟩, spec ds C K PX hs, ?_⟩
  · refine sdSs (sc := scope) (lv := lv) (N := N) (cf := true) (S := S) ⟨fct, rfl, rfl, rfl, rfl, rfl, Sc.nd, fun _ _ => rfl, hr, takes_of rfl rfl rfl rfl, ?_, fok, sl⟩ (passes_of rfl) ms hb
    exact fun G' H' σ ρ C' e cls dd st x y => q2 e C' cls dd G' H' x st.rel st.fr y
  · exact ⟨fun ρ' C' σ' G' H' k st f => q1 .non C' .non G' H' k st.rel st.fr rfl, fun ρ' C' σ' G' H' k st f => k, fun ρ' C' σ' G' H' k st f => k, fun dd C' u G' H' k rel f rep => q1 dd C' u G' H' k rel f rep⟩

/-! ### tables of defs -/
/-- a def's text: its names, its body as small syntax -/
structure Bd where
  N : List Str
  ms : List MS
/-- where a def stands -/
inductive At where
  | glo (x : Str)
  | meth (x m : Str)
  | prop (x m : Str)
def propAt (K : PySem.W.Frag) (x m : Str) : Addr := match PySem.W.findIn K (.ref (He.ga K x)) m with
  | some (some (.ref p)) => p
  | _ => 0
def At.ad (K : PySem.W.Frag) : At → Addr
  | .glo x => He.ga K x
  | .meth x m => He.ma K (He.ga K x) m
  | .prop x m => match PySem.W.recIn K (propAt K x m) "property" with
    | some (.ref g :: _) => g
    | _ => 0
/-- a def as the text has it -/
structure DfD where
  name : Str
  qual : Str
  params : Arguments
  body : List Stmt
  scope : Scope
  nd : Nat
def fnA (K : PySem.W.Frag) (a : Addr) : He.FnW := match K.lookup a with
  | some ⟨_, _, .func fd, _⟩ => some (fd.name, fd.qualname, fd.params, fd.body, fd.scope, fd.globals, fd.closure, fd.builtins)
  | _ => none
def DfD.val (d : DfD) : He.FnW := some (d.name, d.qual, d.params, .stmts d.body, d.scope, mainGlobals, [], builtinsNs)
/-- a value of the written part that is the empty tuple -/
def mtB (K : PySem.W.Frag) : Value → Bool
  | .ref a => match K.lookup a with
    | some ⟨.type c, _, .seq its _, _⟩ => decide (c = "tuple") && decide (its.size = 0)
    | _ => false
  | _ => false
def mtAll (K : PySem.W.Frag) (n : Nat) : Value → Bool
  | .none => decide (n = 0)
  | .ref a => decide (n ≠ 0) && match K.lookup a with
    | some ⟨_, _, .seq its _, _⟩ => decide (its.toList.length = n) && its.toList.all (mtB K)
    | _ => false
  | _ => false
def DfD.ok (K : PySem.W.Frag) (d : DfD) (a : Addr) : Bool := match K.lookup a with
  | some ⟨_, _, .func fd, _⟩ => PySem.W.keepIn K (.ref a) && PySem.W.codeIn K fd.code d.qual && mtAll K d.nd fd.defaults
  | _ => false
theorem mt_rep {T : Tb} {u : Value} (h : mtB T.K u = true) : ∃ v, RelV v u ∧ ∀ G, Rep T G (.tup []) v := by
  cases u with
  | ref a =>
    unfold mtB at h
    dsimp only at h
    cases q : T.K.lookup a with
    | none => rw [q] at h; cases h
    | some o =>
      obtain ⟨oc, od, dt, sl⟩ := o
      rw [q] at h
      cases oc with
      | type c =>
        cases dt with
        | seq its n =>
          have h' : (decide (c = "tuple") && decide (its.size = 0)) = true := h
          simp only [Bool.and_eq_true, decide_eq_true_eq] at h'
          refine ⟨.ref a, rfl, fun G => ⟨a, [], rfl, .inr ⟨_, its, n, q, congrArg Value.type h'.1, rfl, by omega, ?_⟩, rfl⟩⟩
          rw [Array.size_eq_zero_iff.mp h'.2]
          exact .nil
        | _ => cases h
      | _ => cases dt <;> cases h
  | _ => cases h
theorem mt_reps {T : Tb} : ∀ {us : List Value}, us.all (mtB T.K) = true → ∃ vs, Vals vs us ∧ ∀ G, Reps T G (List.replicate us.length (.tup [])) vs
  | [], _ => ⟨[], .nil, fun _ => rfl⟩
  | u :: us, h => by
    rw [List.all_cons, Bool.and_eq_true] at h
    obtain ⟨v, r, q⟩ := mt_rep h.1
    obtain ⟨vs, rs, qs⟩ := mt_reps h.2
    exact ⟨v :: vs, .cons r rs, fun G => ⟨v, vs, rfl, q G, qs G⟩⟩
theorem DfD.funD {T : Tb} {d : DfD} {a : Addr} (e : fnA T.K a = d.val) (c : d.ok T.K a = true) :
    ∃ fd dvs, FunD T.K d.name d.qual d.params d.body d.scope dvs [] a fd ∧ ∀ G, Reps T G (List.replicate d.nd (.tup [])) dvs := by
  unfold DfD.ok at c
  unfold fnA at e
  cases q : T.K.lookup a with
  | none =>
    rw [q] at c
    cases c
  | some o =>
    obtain ⟨oc, od, dt, osl⟩ := o
    rw [q] at c e
    cases dt with
    | func fd =>
      obtain ⟨n1, n2, n3, n4, n5, n6, n7, n8, n9, n10, n11, n12, n13, n14, n15⟩ := fd
      have e2 : (some (n1, n2, n3, n4, n5, n6, n7, n15) : He.FnW) = some (d.name, d.qual, d.params, .stmts d.body, d.scope, mainGlobals, [], builtinsNs) := e
      simp only [Option.some.injEq, Prod.mk.injEq] at e2
      obtain ⟨h1, h2, h3, h4, h5, h6, h7, h8⟩ := e2
      subst h1 h2 h3 h4 h5 h6 h7 h8
      have c3 : (PySem.W.keepIn T.K (.ref a) && PySem.W.codeIn T.K n13 d.qual && mtAll T.K d.nd n8) = true := c
      simp only [Bool.and_eq_true] at c3
      obtain ⟨⟨k1, k2⟩, k3⟩ := c3
      have hd : ∃ dvs, DflV T.K n8 dvs ∧ ∀ G, Reps T G (List.replicate d.nd (.tup [])) dvs := by
        cases n8 with
        | none =>
          have z : d.nd = 0 := of_decide_eq_true k3
          exact ⟨[], .inl ⟨rfl, rfl⟩, fun G => by rw [z]; exact rfl⟩
        | ref b =>
          have k4 : (decide (d.nd ≠ 0) && match T.K.lookup b with
            | some ⟨_, _, .seq its _, _⟩ => decide (its.toList.length = d.nd) && its.toList.all (mtB T.K)
            | _ => false) = true := k3
          rw [Bool.and_eq_true, decide_eq_true_eq] at k4
          obtain ⟨z, k4⟩ := k4
          cases q2 : T.K.lookup b with
          | none => rw [q2] at k4; cases k4
          | some o2 =>
            obtain ⟨oc2, od2, dt2, sl2⟩ := o2
            rw [q2] at k4
            cases dt2 with
            | seq its n =>
              have k5 : (decide (its.toList.length = d.nd) && its.toList.all (mtB T.K)) = true := k4
              rw [Bool.and_eq_true, decide_eq_true_eq] at k5
              obtain ⟨vs, r, hh⟩ := mt_reps (T := T) k5.2
              refine ⟨vs, .inr ⟨?_, b, _, its.toList, n, rfl, q2, by simp, r⟩, fun G => by rw [← k5.1]; exact hh G⟩
              intro z2
              have := r.length
              rw [z2] at this
              exact z (by rw [← k5.1, ← this]; rfl)
            | _ => cases k4
        | _ => cases k3
      obtain ⟨dvs, h9, h10⟩ := hd
      exact ⟨_, dvs, ⟨⟨oc, od, n8, n9, n10, n11, n12, n13, n14, osl, rfl, q, k2, h9, .inl rfl⟩, k1⟩, h10⟩
    | _ => cases c
/-- the scope of a def -/
def scB (N P : List Str) (sc : Scope) : Bool := decide (sc.kind = .function) && !sc.isCoroutine && !sc.isGenerator && decide N.Nodup && decide (N.take P.length = P) && (P.all fun x => visB sc x && !decide (sc.names.lookup x = some .free)) && (sc.names.all fun y => decide (y.2 ≠ .free))
theorem scB_ok {N P : List Str} {sc : Scope} (h : scB N P sc = true) : FnScope N P sc := by
  unfold scB at h
  simp only [Bool.and_eq_true, decide_eq_true_eq, Bool.not_eq_true', List.all_eq_true] at h
  obtain ⟨⟨⟨⟨⟨⟨h1, h2⟩, h3⟩, h4⟩, h5⟩, h6⟩, h7⟩ := h
  refine ⟨h1, h2, h3, h4, h5, fun x hx => ?_, h7⟩
  obtain ⟨a, b⟩ := h6 x hx
  unfold visB at a
  cases e : sc.names.lookup x with
  | none => rw [e] at a; cases a
  | some q =>
    rw [e] at a b
    cases q with
    | «local» => exact .inl rfl
    | cell => exact .inr rfl
    | free => simp at b
    | _ => cases a
end Mp

set_option Elab.async false
set_option linter.all false
set_option maxRecDepth 100000
set_option maxHeartbeats 4000000
/-! Mp, part M: a table of defs over the module's written part; the law's end. -/
namespace Mp
open PySem PySem.Spec L2

theorem look_zip : ∀ {xs : List Str} {us : List Value}, xs.Nodup → us.length = xs.length → (∀ n ∈ xs, ((xs.zip us).lookup n).isNone = false) ∧ (xs.filterMap fun n => ((xs.zip us).lookup n).map (n, ·)) = xs.zip us
  | [], [], _, _ => ⟨(fun n h => by cases h), rfl⟩
  | [], _ :: _, _, h => by cases h
  | _ :: _, [], _, h => by cases h
  | x :: xs, u :: us, nd, hl => by
    obtain ⟨n1, n2⟩ := List.nodup_cons.mp nd
    obtain ⟨i1, i2⟩ := look_zip n2 (by simpa using hl)
    have ne : ∀ n ∈ xs, (n == x) = false := fun n hn => beq_eq_false_iff_ne.mpr fun e => n1 (e ▸ hn)
    refine ⟨fun n hn => ?_, ?_⟩
    · rw [List.zip_cons_cons, List.lookup_cons]
      rcases List.mem_cons.mp hn with rfl | hn
      · simp
      · rw [ne n hn]
        exact i1 n hn
    · rw [List.zip_cons_cons, List.filterMap_cons]
      have e1 : (List.lookup x ((x, u) :: xs.zip us)).map (x, ·) = some (x, u) := by simp
      rw [e1]
      dsimp only
      congr 1
      refine Eq.trans ?_ i2
      have cg : ∀ {ys : List Str} {f g : Str → Option (Str × Value)}, (∀ y ∈ ys, f y = g y) → ys.filterMap f = ys.filterMap g := by
        intro ys f g
        induction ys with
        | nil => intro _; rfl
        | cons y ys ih =>
          intro h
          rw [List.filterMap_cons, List.filterMap_cons, h y (List.mem_cons_self ..), ih fun z hz => h z (List.mem_cons_of_mem _ hz)]
      refine cg fun n hn => ?_
      rw [List.lookup_cons, ne n hn]
theorem bind_all {fd : FuncData} {as : List Arg} {kd : List (Option Expr)} {df : List Expr} {us : List Value} (hp : fd.params = ⟨[], as, none, [], kd, none, df⟩) (hd : fd.defaults = .none) (nd : (as.map (·.arg)).Nodup) (hl : us.length = (as.map (·.arg)).length) :
    bindArgs fd ⟨us, []⟩ = pure ((as.map (·.arg)).zip us) := by
  obtain ⟨h1, h2⟩ := look_zip nd hl
  have h3 : (List.filter (fun n => ((List.map (fun x => x.arg) as).zip us |>.lookup n).isNone) (List.map (fun x => x.arg) as)) = [] := by
    rw [List.filter_eq_nil_iff]
    intro n hn
    rw [h1 n hn]
    decide
  have hz : seqItems? Value.none = pure none := rfl
  unfold bindArgs
  rw [hp, hd, hz]
  have hl2 : us.length = as.length := by simpa using hl
  simp [hl2]
  split
  · rename_i hc
    simp only [List.map_nil, List.nil_append, List.drop_nil, List.length_nil, Nat.sub_zero, List.take_length, h3, List.isEmpty_nil, Bool.not_true] at hc
    cases hc
  · congr 1
    rw [← List.filterMap_map]
    exact h2

/-! ### the written part -/
def clsX (S : Sy) (c : Nat) : Str := match S.cls[c]? with
  | some s => s.x
  | none => Str.empty
def atOf (S : Sy) (d : DfS) : At := match d.k with
  | 0 => .glo d.x
  | 2 => .prop (clsX S d.c) d.x
  | _ => .meth (clsX S d.c) d.x
def propB (K : PySem.W.Frag) (x m : Str) : Bool := He.eqO (PySem.W.findIn K (.ref (He.ga K x)) m) (some (some (.ref (propAt K x m)))) &&
  He.eqO (PySem.W.specialIn K (.ref (propAt K x m)) "__get__") (some (some (.builtin "property.__get__"))) && decide (PySem.W.takesIn K (.ref (propAt K x m)) = some true) &&
  (match PySem.W.recIn K (propAt K x m) "property" with
    | some (.ref _ :: _) => true
    | _ => false)
theorem propB_ok {K : PySem.W.Frag} {x m : Str} (h : propB K x m = true) : PropOf K (He.ga K x) m (propAt K x m) ((At.prop x m).ad K) := by
  unfold propB at h
  simp only [Bool.and_eq_true, decide_eq_true_eq] at h
  obtain ⟨⟨⟨h1, h2⟩, h3⟩, h4⟩ := h
  refine ⟨He.eqO_ok h1, He.eqO_ok h2, h3, ?_⟩
  show ∃ rest, PySem.W.recIn K (propAt K x m) "property" = some (.ref (match PySem.W.recIn K (propAt K x m) "property" with
    | some (.ref g :: _) => g
    | _ => 0) :: rest)
  cases q : PySem.W.recIn K (propAt K x m) "property" with
  | none => rw [q] at h4; cases h4
  | some l =>
    rw [q] at h4
    cases l with
    | nil => cases h4
    | cons v r =>
      cases v with
      | ref g => exact ⟨r, rfl⟩
      | _ => cases h4
def iscB (K : PySem.W.Frag) (x : Str) : Bool := He.eqO (PySem.W.findIn K (.ref (He.ga K x)) "__class__") (some (some (.builtin "object.__class__"))) &&
  He.eqO (PySem.W.specialIn K (.builtin "object.__class__") "__get__") (some (some (.builtin "getset_descriptor.__get__"))) && decide (PySem.W.takesIn K (.builtin "object.__class__") = some true) &&
  decide (PySem.W.mroIn K (He.ga K x) (.type "object") = some true) && ((["NoneType", "bool", "int", "str", "list", "tuple", "dict"] : List String).all fun s => decide (PySem.W.kitOne K (.type s) (.ref (He.ga K x)) = some false))
def spcB (K : PySem.W.Frag) (x : Str) : Bool := He.eqO (PySem.W.findIn K (.ref (He.ga K x)) "__ne__") (some (some (.builtin "object.__ne__"))) &&
  He.eqO (PySem.W.findIn K (.ref (He.ga K x)) "__bool__") (some none) && He.eqO (PySem.W.findIn K (.ref (He.ga K x)) "__len__") (some none) && ((["NoneType", "bool", "int", "str", "list", "tuple", "dict"] : List String).all fun s => PySem.W.notFirst K (He.ga K x) (.type s))
def clsB (K : PySem.W.Frag) (s : ClS) : Bool := spcB K s.x && (He.Fa.glo s.x).ok K && (He.Fa.cls s.x).ok K && (s.fl.all fun m => (He.Fa.noat s.x m).ok K) && iscB K s.x
def dfsB (S : Sy) (K : PySem.W.Frag) (d : DfS) : Bool := match d.k with
  | 0 => (He.Fa.glo d.x).ok K
  | 1 => (He.Fa.meth (clsX S d.c) d.x).ok K
  | 2 => propB K (clsX S d.c) d.x
  | 3 => (He.Fa.mkr (clsX S d.c)).ok K && decide (d.x = ("__init__" : Str))
  | _ => true
def okM (S : Sy) (fn : List DfD) (K : PySem.W.Frag) : Bool := ((S.dfs.zip fn).all fun p => p.2.ok K ((atOf S p.1).ad K) && dfsB S K p.1) && S.cls.all (clsB K) && (S.ivs.all fun p => (He.Fa.int p.1 p.2).ok K) && (S.free.all fun x => (He.Fa.free x).ok K)
abbrev AlM : Type := Bool × List He.FnW
def obsM (S : Sy) (fn : List DfD) (K : PySem.W.Frag) : AlM := (okM S fn K, (S.dfs.zip fn).map fun p => fnA K ((atOf S p.1).ad K))
def valM (S : Sy) (fn : List DfD) : AlM := (true, (S.dfs.zip fn).map fun p => p.2.val)
def obsGM (n : Nat) (S : Sy) (fn : List DfD) (g : Addr → Option Obj) : AlM := obsM S fn (He.frG g (He.asG g n))
def hookM (n : Nat) (S : Sy) (fn : List DfD) : PySem.W.Hook where
  α := AlM
  obs := fun s => obsGM n S fn s.heap.get?
  val := fun _ => valM S fn
  says := fun _ h => ∃ K : PySem.W.Frag, K.In h ∧ obsM S fn K = valM S fn
  of := fun _ _ e => ⟨_, He.frG_in, e⟩
  keeps := fun _ _ _ ⟨K, hK, c⟩ k => ⟨K, PySem.W.Frag.In.keeps hK k, c⟩
theorem obsGM_eq {n : Nat} {S : Sy} {fn : List DfD} {g : Addr → Option Obj} {s : Shared} (h : ∀ a, g a = s.heap.get? a) : obsGM n S fn g = (hookM n S fn).obs s := by
  have e : g = s.heap.get? := funext h
  rw [e] <;> rfl

/-! ### the static check -/
def parB (p : Arguments) (ps : List Str) : Bool := match p with
  | ⟨[], as, none, [], _, none, _⟩ => decide (as.map (·.arg) = ps)
  | _ => false
theorem parB_ok {p : Arguments} {ps : List Str} (h : parB p ps = true) : ∃ as kd df, p = ⟨[], as, none, [], kd, none, df⟩ ∧ as.map (·.arg) = ps := by
  unfold parB at h
  split at h
  · exact ⟨_, _, _, rfl, of_decide_eq_true h⟩
  · cases h
def ckDef (S : Sy) (f : DfS × DfD × Bd) : Bool := decide (1 ≤ f.1.lv) && scB f.2.2.N f.1.ps f.2.1.scope && ckSs S (f.1.lv - 1) f.2.2.N true f.2.1.scope f.2.2.ms f.2.1.body && parB f.2.1.params f.1.ps && decide f.1.ps.Nodup && decide (f.1.nd = f.2.1.nd) && decide (f.1.nd ≤ f.1.ps.length)
def stB (S : Sy) (fn : List DfD) (bd : List Bd) : Bool := decide (S.dfs.length = fn.length) && decide (S.dfs.length = bd.length) && ((S.dfs.zip (fn.zip bd)).all (ckDef S)) && S.cls.all fun s => decide s.fl.Nodup && decide (s.fl.length < 1000)
/-- defs with defaults: how a call binds -/
def BindD (x : DfD) (ps : List Str) : Prop := ∀ (T : Addr) (kV doc pm : Value) (an : Option Addr) (cdv ct : Value) (us its : List Value) (j : Nat), j ≤ x.nd → us.length + (x.nd - j) = ps.length → its.length = x.nd →
  ∃ k, bindArgs (PySem.W.fnOf x.name x.qual x.params x.body x.scope (.ref T) kV doc pm an cdv ct) ⟨us, []⟩ = seqItems? (.ref T) >>= k ∧ k (some its.toArray) = pure (ps.zip (us ++ its.drop j))
/-- how a call by keywords binds: all places given -/
def KwD0 (x : DfD) (ps : List Str) (q : KwS) : Prop := x.nd = 0 ∧ ∀ (kV doc pm : Value) (an : Option Addr) (cdv ct : Value) (us ws : List Value), us.length = q.n → ws.length = q.ks.length →
  bindArgs (PySem.W.fnOf x.name x.qual x.params x.body x.scope .none kV doc pm an cdv ct) ⟨us, q.ks.zip ws⟩ = pure (ps.zip (pickV q.pm (us ++ ws)))
def KwD1 (x : DfD) (ps : List Str) (q : KwS) : Prop := x.nd ≠ 0 ∧ ∀ (T : Addr) (kV doc pm : Value) (an : Option Addr) (cdv ct : Value) (us ws its : List Value), us.length = q.n → ws.length = q.ks.length → its.length = x.nd →
  ∃ k, bindArgs (PySem.W.fnOf x.name x.qual x.params x.body x.scope (.ref T) kV doc pm an cdv ct) ⟨us, q.ks.zip ws⟩ = seqItems? (.ref T) >>= k ∧ k (some its.toArray) = pure (ps.zip (pickV q.pm (us ++ ws)))
def KwD (x : DfD) (ps : List Str) (q : KwS) : Prop := KwD0 x ps q ∨ KwD1 x ps q
def fdAt (K : PySem.W.Frag) (a : Addr) : FuncData := match K.lookup a with
  | some ⟨_, _, .func fd, _⟩ => fd
  | _ => PySem.W.fnOf Str.empty Str.empty ⟨[], [], none, [], [], none, []⟩ [] ⟨.function, [], false, false, []⟩ .none .none .none .none none .none .none
def tbOf (S : Sy) (K : PySem.W.Frag) (mg : Str → Option Value) : Tb where
  K := K
  mg := mg
  cl := fun c => He.ga K (clsX S c)
  fl := fun c => match S.cls[c]? with
    | some s => s.fl
    | none => []
  fa := fun f => match S.dfs[f]? with
    | some d => (atOf S d).ad K
    | none => 0
  fd := fun f => match S.dfs[f]? with
    | some d => fdAt K ((atOf S d).ad K)
    | none => fdAt K 0
section
variable {S : Sy} {fn : List DfD} {bd : List Bd} {K : PySem.W.Frag} {h : Heap} {mg : Str → Option Value}
theorem zip_get {α β : Type} : ∀ {as : List α} {bs : List β} {i : Nat} {a : α} {b : β}, as[i]? = some a → bs[i]? = some b → (as.zip bs)[i]? = some (a, b)
  | a :: as, b :: bs, 0, x, y, h1, h2 => by
    simp at h1 h2
    subst h1 h2
    rfl
  | a :: as, b :: bs, i + 1, x, y, h1, h2 => by
    show (as.zip bs)[i]? = _
    exact zip_get (by simpa using h1) (by simpa using h2)
  | [], _, i, x, y, h1, _ => by simp at h1
  | _ :: _, [], i, x, y, _, h2 => by simp at h2
theorem get_of_len {α : Type} {l : List α} {i n : Nat} (h : i < n) (e : n = l.length) : ∃ x, l[i]? = some x := ⟨l[i]'(by omega), by simp⟩
structure TabOk (S : Sy) (fn : List DfD) (bd : List Bd) : Prop where
  st : stB S fn bd = true
  kw : ∀ (q : KwS) (d : DfS) (x : DfD), q ∈ S.kws → S.dfs[q.f]? = some d → fn[q.f]? = some x → KwD x d.ps q
  bn : ∀ (f : Nat) (d : DfS) (x : DfD), S.dfs[f]? = some d → fn[f]? = some x → x.nd ≠ 0 → BindD x d.ps
theorem TabOk.at_ (t : TabOk S fn bd) {f : Nat} {d : DfS} (e : S.dfs[f]? = some d) : ∃ x b, fn[f]? = some x ∧ bd[f]? = some b ∧ ckDef S (d, x, b) = true := by
  have h := t.st
  unfold stB at h
  simp only [Bool.and_eq_true, decide_eq_true_eq] at h
  obtain ⟨⟨⟨h1, h2⟩, h3⟩, h4⟩ := h
  have hf := (List.getElem?_eq_some_iff.mp e).1
  obtain ⟨x, ex⟩ := get_of_len hf h1
  obtain ⟨b, eb⟩ := get_of_len hf h2
  refine ⟨x, b, ex, eb, List.all_eq_true.mp h3 _ (List.mem_of_getElem? (zip_get e (zip_get ex eb)))⟩
theorem fun_at (mg : Str → Option Value) (c : obsM S fn K = valM S fn) {f : Nat} {d : DfS} {x : DfD} (e : S.dfs[f]? = some d) (ex : fn[f]? = some x) :
    ∃ dvs, FunD K x.name x.qual x.params x.body x.scope dvs [] ((atOf S d).ad K) (fdAt K ((atOf S d).ad K)) ∧ (∀ G, Reps (tbOf S K mg) G (List.replicate x.nd (.tup [])) dvs) ∧ dfsB S K d = true := by
  have c1 : okM S fn K = true := congrArg (fun z : AlM => z.1) c
  have c2 : (S.dfs.zip fn).map (fun p => fnA K ((atOf S p.1).ad K)) = (S.dfs.zip fn).map (fun p => p.2.val) := congrArg (fun z : AlM => z.2) c
  unfold okM at c1
  simp only [Bool.and_eq_true] at c1
  obtain ⟨⟨⟨h1, _⟩, _⟩, _⟩ := c1
  have ez := zip_get e ex
  have h2 := List.all_eq_true.mp h1 _ (List.mem_of_getElem? ez)
  rw [Bool.and_eq_true] at h2
  have e2 : ((S.dfs.zip fn).map (fun p => fnA K ((atOf S p.1).ad K)))[f]? = ((S.dfs.zip fn).map (fun p => p.2.val))[f]? := by rw [c2]
  rw [List.getElem?_map, List.getElem?_map, ez] at e2
  have e3 : fnA K ((atOf S d).ad K) = x.val := Option.some.inj e2
  obtain ⟨fd, dvs, F, R⟩ := DfD.funD (T := tbOf S K mg) (a := (atOf S d).ad K) e3 h2.1
  have efd : fd = fdAt K ((atOf S d).ad K) := by
    obtain ⟨oc, od, dV, kV, doc, pm, an, cdv, ct, osl, _, lk, _⟩ := F.ex
    unfold fdAt
    rw [show K.lookup ((atOf S d).ad K) = some ⟨oc, od, .func fd, osl⟩ from lk]
  exact ⟨dvs, efd ▸ F, R, h2.2⟩
theorem fct_of (t : TabOk S fn bd) (c : obsM S fn K = valM S fn) (hK : K.In h) (ns : h.Ns mainGlobals mg) : Fct (tbOf S K mg) S := by
  have c1 : okM S fn K = true := congrArg (fun z : AlM => z.1) c
  unfold okM at c1
  simp only [Bool.and_eq_true] at c1
  obtain ⟨⟨⟨_, hc⟩, hi⟩, hf⟩ := c1
  have hfa : ∀ {f d}, S.dfs[f]? = some d → (tbOf S K mg).fa f = (atOf S d).ad K := fun {f d} e => by
    show (match S.dfs[f]? with
      | some d => (atOf S d).ad K
      | none => 0) = _
    rw [e]
  have hfd : ∀ {f d}, S.dfs[f]? = some d → (tbOf S K mg).fd f = fdAt K ((atOf S d).ad K) := fun {f d} e => by
    show (match S.dfs[f]? with
      | some d => fdAt K ((atOf S d).ad K)
      | none => fdAt K 0) = _
    rw [e]
  have hst := t.st
  unfold stB at hst
  simp only [Bool.and_eq_true] at hst
  have hcx : ∀ {c s}, S.cls[c]? = some s → clsX S c = s.x := fun {c s} e => by
    unfold clsX
    rw [e]
  have hcB : ∀ {c s}, S.cls[c]? = some s → clsB K s = true := fun {c s} e => List.all_eq_true.mp hc s (List.mem_of_getElem? e)
  refine ⟨fun f d e k => ?_, fun f d e k => ?_, fun f d j e hj => ?_, fun q hq d e => ?_, fun f d e k => ?_, fun f d e k => ?_, fun f d e k => ?_, fun c s e => ?_, fun c s m e hm => ?_, fun c s e => ?_, fun c s e => ?_, fun x i e => ?_, fun x hx => ?_⟩
  · obtain ⟨x, b, ex, eb, ck⟩ := t.at_ e
    obtain ⟨dvs, F, R, z⟩ := fun_at mg c e ex
    unfold dfsB at z
    rw [k] at z
    rw [hfa e]
    unfold atOf
    rw [k]
    exact He.glo_ok hK ns z
  · obtain ⟨x, b, ex, eb, ck⟩ := t.at_ e
    obtain ⟨dvs, F, R, z⟩ := fun_at mg c e ex
    rw [hfa e]
    exact F.kp
  · obtain ⟨x, b, ex, eb, ck⟩ := t.at_ e
    obtain ⟨dvs, F, R, z⟩ := fun_at mg c e ex
    unfold ckDef at ck
    simp only [Bool.and_eq_true, decide_eq_true_eq] at ck
    obtain ⟨⟨⟨⟨⟨⟨_, _⟩, _⟩, hp⟩, hnd⟩, hn⟩, hn2⟩ := ck
    rw [hfd e]
    have hlen : dvs.length = x.nd := by rw [(R (fun _ => none)).len, List.length_replicate]
    by_cases hz : x.nd = 0
    · have hd0 : dvs = [] := List.eq_nil_of_length_eq_zero (by rw [hlen]; exact hz)
      subst hd0
      have hj0 : j = 0 := by omega
      subst hj0
      refine ⟨[], [], ⟨FunD.bindsN F fun kV doc pm an cdv ct us hl => ?_, .nil, fun _ => rfl⟩, fun _ => ⟨rfl, rfl⟩⟩
      obtain ⟨as, kd, df, e1, e2⟩ := parB_ok hp
      rw [← e2] at hl hnd ⊢
      exact bind_all (kd := kd) (df := df) e1 rfl hnd hl
    · have hbn := t.bn f d x e ex hz
      obtain ⟨ds, h1, h2⟩ := FunD.binds1 F (d.ps.length - j) (x.nd - j) (fun z => hz (by rw [← hlen, z]; rfl)) (by rw [hlen]; omega) fun T kV doc pm an cdv ct us its hu hi => hbn T kV doc pm an cdv ct us its (x.nd - j) (by omega) (by omega) (by rw [hi, hlen])
      refine ⟨_, ds, ⟨h2, h1, fun G => ?_⟩, fun hj0 => ?_⟩
      · have q := Reps.drop (x.nd - j) (R G)
        rw [List.drop_replicate, show x.nd - (x.nd - j) = j by omega] at q
        exact q
      · have z1 : dvs.drop (x.nd - j) = [] := List.drop_eq_nil_of_le (by rw [hlen]; omega)
        rw [z1] at h1 ⊢
        cases h1
        exact ⟨rfl, rfl⟩
  · obtain ⟨x, b, ex, eb, ck⟩ := t.at_ e
    obtain ⟨dvs, F, R, z⟩ := fun_at mg c e ex
    have hlen : dvs.length = x.nd := by rw [(R (fun _ => none)).len, List.length_replicate]
    rcases t.kw q d x hq e ex with ⟨hz, hk⟩ | ⟨hz, hk⟩
    case inr =>
      rw [hfd e]
      intro s us ws hIn hu hw
      generalize fdAt K ((atOf S d).ad K) = fd at F ⊢
      obtain ⟨oc, od, dV, kV, doc, pm, an, cdv, ct, osl, rfl, lk, hcd, hD, hK⟩ := F.ex
      rcases hD with ⟨e1, _⟩ | ⟨_, T, o, its, m, rfl, lT, oT, rT⟩
      · rw [e1] at hlen
        exact absurd hlen.symm hz
      · obtain ⟨k, e1, e2⟩ := hk T kV doc pm an cdv ct us ws its hu hw (by rw [← hlen]; exact rT.length.symm)
        refine BindsTo.of_looks fun M => ?_
        rw [e1]
        exact looks_items hIn lT oT (.of_pure e2)
    have hd0 : dvs = [] := List.eq_nil_of_length_eq_zero (by rw [hlen]; exact hz)
    subst hd0
    rw [hfd e]
    intro s us ws hIn hu hw
    generalize fdAt K ((atOf S d).ad K) = fd at F ⊢
    obtain ⟨oc, od, dV, kV, doc, pm, an, cdv, ct, osl, rfl, lk, hcd, hD, hK⟩ := F.ex
    rcases hD with ⟨_, rfl⟩ | ⟨e, _⟩
    · exact .of_eq (hk kV doc pm an cdv ct us ws hu hw)
    · exact absurd rfl e
  · obtain ⟨x, b, ex, eb, ck⟩ := t.at_ e
    obtain ⟨dvs, F, R, z⟩ := fun_at mg c e ex
    unfold dfsB at z
    rw [k] at z
    rw [hfa e]
    unfold atOf
    rw [k]
    exact He.meth_ok z
  · obtain ⟨x, b, ex, eb, ck⟩ := t.at_ e
    obtain ⟨dvs, F, R, z⟩ := fun_at mg c e ex
    unfold dfsB at z
    rw [k] at z
    rw [hfa e]
    unfold atOf
    rw [k]
    exact ⟨_, propB_ok z⟩
  · obtain ⟨x, b, ex, eb, ck⟩ := t.at_ e
    obtain ⟨dvs, F, R, z⟩ := fun_at mg c e ex
    unfold dfsB at z
    rw [k] at z
    have z' : ((He.Fa.mkr (clsX S d.c)).ok K && decide (d.x = ("__init__" : Str))) = true := z
    rw [Bool.and_eq_true, decide_eq_true_eq] at z'
    rw [hfa e]
    unfold atOf
    rw [k]
    have m := He.mkr_ok z'.1
    rw [← z'.2] at m
    exact m
  · have z := hcB e
    unfold clsB at z
    simp only [Bool.and_eq_true] at z
    obtain ⟨⟨⟨⟨z0, z1⟩, z2⟩, z3⟩, z4⟩ := z
    have q := List.all_eq_true.mp hst.2 s (List.mem_of_getElem? e)
    simp only [Bool.and_eq_true, decide_eq_true_eq] at q
    refine ⟨?_, ?_, ?_, q.1, q.2⟩
    · show Cls K (He.ga K (clsX S c))
      rw [hcx e]
      exact He.cls_ok z2
    · show mg s.x = some (.ref (He.ga K (clsX S c)))
      rw [hcx e]
      exact He.glo_ok hK ns z1
    · show (match S.cls[c]? with
        | some s => s.fl
        | none => []) = _
      rw [e]
  · have z := hcB e
    unfold clsB at z
    simp only [Bool.and_eq_true] at z
    obtain ⟨⟨⟨⟨z0, z1⟩, z2⟩, z3⟩, z4⟩ := z
    show NoAttr K (He.ga K (clsX S c)) m
    rw [hcx e]
    exact He.noat_ok (List.all_eq_true.mp z3 m hm)
  · have z := hcB e
    unfold clsB iscB at z
    simp only [Bool.and_eq_true, decide_eq_true_eq] at z
    obtain ⟨⟨⟨⟨z0, z1⟩, z2⟩, z3⟩, ⟨⟨⟨z4, z5⟩, z6⟩, z7⟩, z8⟩ := z
    have e1 : (tbOf S K mg).cl c = He.ga K s.x := by
      show He.ga K (clsX S c) = _
      rw [hcx e]
    refine ⟨by rw [e1]; exact He.cls_ok z2, by rw [e1]; exact He.eqO_ok z4, He.eqO_ok z5, z6, by rw [e1]; exact z7, fun q hq => ?_⟩
    rw [e1]
    exact of_decide_eq_true (List.all_eq_true.mp z8 q hq)
  · have z := hcB e
    unfold clsB spcB at z
    simp only [Bool.and_eq_true] at z
    obtain ⟨⟨⟨⟨⟨⟨⟨y1, y2⟩, y3⟩, y4⟩, z1⟩, z2⟩, z3⟩, z4⟩ := z
    have e1 : (tbOf S K mg).cl c = He.ga K s.x := by
      show He.ga K (clsX S c) = _
      rw [hcx e]
    refine ⟨by rw [e1]; exact He.eqO_ok y1, by rw [e1]; exact He.eqO_ok y2, by rw [e1]; exact He.eqO_ok y3, fun q hq => ?_⟩
    rw [e1]
    exact List.all_eq_true.mp y4 q hq
  · have hm : (x, i) ∈ S.ivs := PySem.mem_of_lookup e
    exact He.int_ok hK ns (List.all_eq_true.mp hi (x, i) hm)
  · exact He.free_ok hK ns (List.all_eq_true.mp hf x hx)
/-- every def keeps its promise -/
theorem defs_ok {Γ : Specs} {P : Program} {w : World} {base : Heap} (t : TabOk S fn bd) (c : obsM S fn K = valM S fn) (fct : Fct (tbOf S K mg) S)
    (sl : ∀ f d, S.dfs[f]? = some d → ∀ ds C Q PX, Γ f ds C Q PX → ds.length = d.ps.length)
    (spec : ∀ f b, bd[f]? = some b → ∀ ds C Q PX, Γ f ds C Q PX → wpSs Γ b.ms (ro0 b.N ds) C (fnEn Q PX)) :
    ∀ n f d, S.dfs[f]? = some d → d.lv ≤ n → FnOk P w K mg base (L2.CX P w) d.lv ((tbOf S K mg).fa f) ((tbOf S K mg).fd f) d.ps (spL (tbOf S K mg) (Γ f) d.ps.length) := by
  intro n
  induction n with
  | zero =>
    intro f d e hl
    obtain ⟨x, b, ex, eb, ck⟩ := t.at_ e
    unfold ckDef at ck
    simp only [Bool.and_eq_true, decide_eq_true_eq] at ck
    omega
  | succ n ih =>
    intro f d e hl
    obtain ⟨x, b, ex, eb, ck⟩ := t.at_ e
    unfold ckDef at ck
    simp only [Bool.and_eq_true, decide_eq_true_eq] at ck
    obtain ⟨⟨⟨⟨⟨⟨h1, h2⟩, h3⟩, h4⟩, h5⟩, h6⟩, h7⟩ := ck
    obtain ⟨dvs, F, R, z⟩ := fun_at mg c e ex
    have hfa : (tbOf S K mg).fa f = (atOf S d).ad K := by
      show (match S.dfs[f]? with
        | some d => (atOf S d).ad K
        | none => 0) = _
      rw [e]
    have hfd : (tbOf S K mg).fd f = fdAt K ((atOf S d).ad K) := by
      show (match S.dfs[f]? with
        | some d => fdAt K ((atOf S d).ad K)
        | none => fdAt K 0) = _
      rw [e]
    rw [← hfd, ← hfa] at F
    exact fn_ok (T := tbOf S K mg) (lv := d.lv - 1) fct (by omega) F (scB_ok h2) h3 (fun g d' e' hl' => ih g d' e' (by omega)) sl (spec f b eb)
end
/-- the law's row, from its table -/
theorem law_of {l : PySem.W.OpenLaw} {n k L nn : Nat} {q : Program} {loose : List Str} {XP : (Str → Option Value) → Heap → Prop} {d : DefRec} {x : Str} {S : Sy} {fn : List DfD} {bd : List Bd} {Γ : Specs} {dl : DfS}
    (hn : l.most = some n) (hn2 : n ≤ sizeLine) (hdf : d.params.defaults = []) (hr : L2.Room k callerA) (t : TabOk S fn bd)
    (hL : S.dfs[L]? = some dl) (hk : dl.k = 0) (hx : dl.x = d.name) (hps : dl.ps = [x]) (hnd : dl.nd = 0) (hlv : dl.lv ≤ k)
    (sl : ∀ f d, S.dfs[f]? = some d → ∀ ds C Q PX, Γ f ds C Q PX → ds.length = d.ps.length)
    (spec : ∀ f b, bd[f]? = some b → ∀ ds C Q PX, Γ f ds C Q PX → wpSs Γ b.ms (ro0 b.N ds) C (fnEn Q PX))
    (hlaw : ∀ ns : List Int, ns.length ≤ n → Γ L [.scr ns] (fun _ => none) (fun d _ => d = .bl true) fun _ _ => False) :
    PySem.W.WalkO q loose XP (hookM nn S fn).says l.row.toRowW d [] (fun f vs => PySem.call f vs) := by
  refine Att.attach_call hn hdf fun w s₀ s₁ mg mb fa o pm cd doc a vs ns G Y ho hd hcd hmg hobj hints hlen hg => ?_
  obtain ⟨K, KX, c⟩ := Y
  have fct : Fct (tbOf S K mg) S := fct_of t c KX G.T.g
  have e1 : mg dl.x = some (.ref ((tbOf S K mg).fa L)) := fct.glo L dl hL hk
  rw [hx] at e1
  have e2 : fa = (tbOf S K mg).fa L := by
    rw [show mg d.name = some (.ref fa) from hmg] at e1
    cases e1
    rfl
  have F : ∀ base : Heap, K.In base → base.Ns mainGlobals mg → FnOk l.prog w K mg base (L2.CX l.prog w) k fa ((tbOf S K mg).fd L) [x] (spL (tbOf S K mg) (Γ L) 1) := fun base _ _ => by
    have q := (defs_ok (P := l.prog) (w := w) (base := base) t c fct sl spec dl.lv L dl hL (Nat.le_refl _)).mono hlv
    rw [hps] at q
    rw [e2]
    exact q
  have hb : ∀ (s : Shared) (u : Value), BindsTo s ((tbOf S K mg).fd L) ⟨[u], []⟩ [(x, u)] := fun s u => by
    obtain ⟨x', b, ex, eb, ck⟩ := t.at_ hL
    unfold ckDef at ck
    simp only [Bool.and_eq_true, decide_eq_true_eq] at ck
    obtain ⟨⟨⟨⟨⟨⟨h1, h2⟩, h3⟩, h4⟩, h5⟩, h6⟩, h7⟩ := ck
    obtain ⟨dvs, F0, R, z⟩ := fun_at mg c hL ex
    have hlen : dvs.length = x'.nd := by rw [(R (fun _ => none)).len, List.length_replicate]
    have hd0 : dvs = [] := List.eq_nil_of_length_eq_zero (by rw [hlen, ← h6]; exact hnd)
    subst hd0
    have hfd : (tbOf S K mg).fd L = fdAt K ((atOf S dl).ad K) := by
      show (match S.dfs[L]? with
        | some d => fdAt K ((atOf S d).ad K)
        | none => fdAt K 0) = _
      rw [hL]
    rw [hfd]
    obtain ⟨as, kd, df, q1, q2⟩ := parB_ok h4
    rw [hps] at q2 h5
    exact FunD.bindsA (ps := [x]) F0 (fun kV doc pm an cdv ct us hl => by
      rw [← q2] at hl h5 ⊢
      exact bind_all (kd := kd) (df := df) q1 rfl h5 hl) s [u] rfl
  exact law_go KX G.T.g G.T.b G.T.builtins G.T.nolimit hg hobj hints (Nat.le_trans hlen hn2) hr F hb (fun H hO hS => ⟨H, fun _ => none, [.scr ns], _, _, ⟨Same.refl _, fun a co z => by cases z⟩, ⟨_, _, rfl, ⟨a, rfl, hS⟩, rfl⟩, rfl, hlaw ns hlen, fun dd C' u G' H' k r f rep => by
    subst k
    exact rep, fun _ _ _ _ _ _ z _ _ _ => z.elim⟩) fun H e s' z => by
    obtain ⟨_, _, _, _, _, _, _, _, _, _, _, _, z⟩ := z
    exact z.elim
end Mp

set_option Elab.async false
set_option linter.all false
set_option maxRecDepth 100000
set_option maxHeartbeats 4000000
/-! Mp, part N: lemmas for a spec's proof. -/
namespace Mp
open PySem PySem.Spec L2

section
variable {tg : MT} {tt : Ro → Cs → KT → Prop} {te : Ro → Cs → KE → Prop} {ρ0 : Ro}
/-- every item gives f of it; what may change keeps I -/
theorem comp_mapI (I : Cs → Prop) (f : D → D) {K : List D → Cs → Prop} : ∀ (ds : List D) (acc : List D) (C : Cs), I C →
    (∀ d ∈ ds, ∀ (C : Cs) (Q : KE) (E : Cs → Prop), I C → (∀ ρ C', I C' → Q (f d) ρ C') → wTg tg d ρ0 fun ρ1 => tt ρ1 C fun b ρ2 C2 => wIf b (te ρ2 C2 Q) (E C2)) →
    acc.length + ds.length ≤ sizeLine → (∀ C, I C → K (acc ++ ds.map f) C) → compW tg tt te ρ0 ds C acc K
  | [], acc, C, i, h, hl, k => by
    have := k C i
    rw [List.map_nil, List.append_nil] at this
    exact this
  | d :: ds, acc, C, i, h, hl, k => by
    refine h d (List.mem_cons_self ..) C _ _ i fun ρ C' i' => ⟨by rw [List.length_cons] at hl; omega, comp_mapI I f ds (acc ++ [f d]) C' i' (fun x hx => h x (List.mem_cons_of_mem _ hx)) ?_ ?_⟩
    · rw [List.length_append, List.length_singleton]
      rw [List.length_cons] at hl
      omega
    · intro C i
      have := k C i
      rw [List.map_cons] at this
      rw [List.append_assoc]
      exact this
theorem comp_map (f : D → D) {K : List D → Cs → Prop} {ds : List D} {C : Cs} (h : ∀ d ∈ ds, ∀ (Q : KE) (E : Cs → Prop), (∀ ρ, Q (f d) ρ C) → wTg tg d ρ0 fun ρ1 => tt ρ1 C fun b ρ2 C2 => wIf b (te ρ2 C2 Q) (E C2))
    (hl : ds.length ≤ sizeLine) (k : K (ds.map f) C) : compW tg tt te ρ0 ds C [] K :=
  comp_mapI (fun C' => C' = C) f ds [] C rfl (fun d hd C' Q E e q => by
    subst e
    exact h d hd Q E fun ρ => q ρ _ rfl) (by simpa using hl) (fun C' e => by
    subst e
    exact k)
/-- the items with p, f of them -/
theorem comp_filter (p : D → Bool) (f : D → D) {K : List D → Cs → Prop} {C : Cs} : ∀ (ds : List D) (acc : List D),
    (∀ d ∈ ds, ∀ (Q : KE) (E : Cs → Prop), (p d = true → ∀ ρ, Q (f d) ρ C) → (p d = false → E C) → wTg tg d ρ0 fun ρ1 => tt ρ1 C fun b ρ2 C2 => wIf b (te ρ2 C2 Q) (E C2)) →
    acc.length + ds.length ≤ sizeLine → K (acc ++ (ds.filter p).map f) C → compW tg tt te ρ0 ds C acc K
  | [], acc, h, hl, k => by
    rw [List.filter_nil, List.map_nil, List.append_nil] at k
    exact k
  | d :: ds, acc, h, hl, k => by
    rw [List.length_cons] at hl
    refine h d (List.mem_cons_self ..) _ _ (fun hp ρ => ⟨by omega, comp_filter p f ds (acc ++ [f d]) (fun x hx => h x (List.mem_cons_of_mem _ hx)) (by rw [List.length_append, List.length_singleton]; omega) ?_⟩) (fun hp => comp_filter p f ds acc (fun x hx => h x (List.mem_cons_of_mem _ hx)) (by omega) ?_)
    · rw [List.filter_cons, hp, if_pos rfl, List.map_cons] at k
      rw [List.append_assoc]
      exact k
    · rw [List.filter_cons, hp, if_neg (by decide)] at k
      exact k
end
/-- a for over ds, by what holds at each turn -/
theorem for_inv {tg : MT} {b : Ro → Cs → En → Prop} (J : Nat → Ro → Cs → Prop) {ds : List D} {E : En} : ∀ (n : Nat) (ρ : Ro) (C : Cs), n ≤ ds.length → J n ρ C →
    (∀ i d ρ C, ds[i]? = some d → J i ρ C → ∀ E' : En, (E'.ex = E.ex ∧ E'.rt = E.rt) → (∀ ρ C, J (i + 1) ρ C → E'.nx ρ C ∧ E'.ct ρ C) → E'.bk = E.nx → wTg tg d ρ fun ρ1 => b ρ1 C E') →
    (∀ ρ C, J ds.length ρ C → E.nx ρ C) → forW tg b (ds.drop n) ρ C E := by
  intro n
  induction h : ds.length - n generalizing n with
  | zero =>
    intro ρ C hn j hs hd
    have e : n = ds.length := by omega
    subst e
    rw [List.drop_length]
    exact hd ρ C j
  | succ k ih =>
    intro ρ C hn j hs hd
    have hlt : n < ds.length := by omega
    rw [List.drop_eq_getElem_cons hlt]
    exact hs n ds[n] ρ C (by simp [hlt]) j _ ⟨rfl, rfl⟩ (fun ρ' C' j' => ⟨ih (n + 1) (by omega) ρ' C' hlt j' hs hd, ih (n + 1) (by omega) ρ' C' hlt j' hs hd⟩) rfl
theorem for_inv0 {tg : MT} {b : Ro → Cs → En → Prop} (J : Nat → Ro → Cs → Prop) {ds : List D} {E : En} {ρ : Ro} {C : Cs} (j : J 0 ρ C)
    (hs : ∀ i d ρ C, ds[i]? = some d → J i ρ C → ∀ E' : En, (E'.ex = E.ex ∧ E'.rt = E.rt) → (∀ ρ C, J (i + 1) ρ C → E'.nx ρ C ∧ E'.ct ρ C) → E'.bk = E.nx → wTg tg d ρ fun ρ1 => b ρ1 C E')
    (hd : ∀ ρ C, J ds.length ρ C → E.nx ρ C) : forW tg b ds ρ C E := by
  have := for_inv J 0 ρ C (Nat.zero_le _) j hs hd
  rwa [List.drop_zero] at this
section
variable {C : Cs} {a : Addr} {ds : List D} {ks : List Key} {c : Nat}
theorem view_int {i : Int} : view C (.int i) = .int i := rfl
theorem view_bl {i : Bool} : view C (.bl i) = .bl i := rfl
theorem view_str {i : Str} : view C (.str i) = .str i := rfl
theorem view_non : view C .non = .non := rfl
theorem view_lst : view C (.lst ds) = .lst ds := rfl
theorem view_tupl : view C (.tup ds) = .tup ds := rfl
theorem view_ins : view C (.ins c ds) = .ins c ds := rfl
theorem view_dct : view C (.dct ks ds) = .dct ks ds := rfl
theorem view_scr {ns : List Int} : view C (.scr ns) = .scr ns := rfl
theorem view_refL (h : C a = some (.lst ds)) : view C (.ref a) = .lst ds := by
  unfold view
  dsimp only
  rw [h]
theorem view_refD (h : C a = some (.dct ks ds)) : view C (.ref a) = .dct ks ds := by
  unfold view
  dsimp only
  rw [h]
theorem setID_lst {k : Int} {j : Nat} {v : D} {K : Cs → Prop} (h : C a = some (.lst ds)) (hj : ixN ds.length k = some j) (q : K (cset C a (.lst (ds.set j v)))) : setID (.ref a) (.int k) v C K := by
  unfold setID
  dsimp only
  rw [h]
  exact ⟨j, hj, q⟩
theorem setID_dct {i : D} {v : D} {K : Cs → Prop} (h : C a = some (.dct ks ds)) (q : keyD i fun k => ks.length < sizeLine ∧ K (cset C a (.dct (dputK ks k) (dputD ks ds k v)))) : setID (.ref a) i v C K := by
  unfold setID
  dsimp only
  rw [h]
  exact q
theorem setFD_ins {i : Nat} {v : D} {K : Cs → Prop} (h : C a = some (.ins c ds)) (hi : i ≤ ds.length) (q : K (cset C a (.ins c (putI i v ds)))) : setFD (.ref a) c i v C K := by
  unfold setFD
  dsimp only
  rw [h]
  exact ⟨⟨rfl, hi⟩, q⟩
theorem lstC_ref {K : Addr → List D → Prop} (h : C a = some (.lst ds)) (q : K a ds) : lstC (.ref a) C K := by
  unfold lstC
  dsimp only
  rw [h]
  exact q
theorem frzV_lst {i : Nat} {ρ : Ro} {K : KE} (h : C a = some (.lst ds)) (q : K (.lst ds) (ρ.set i (some (.lst ds))) (cdel C a)) : frzV i (.ref a) ρ C K := by
  unfold frzV
  dsimp only
  rw [h]
  exact q
theorem add_int {i j : Int} {K : D → Prop} : binD .Add (.int i) (.int j) K = K (.int (i + j)) := rfl
theorem sub_int {i j : Int} {K : D → Prop} : binD .Sub (.int i) (.int j) K = K (.int (i - j)) := rfl
theorem mul_int {i j : Int} {K : D → Prop} : binD .Mult (.int i) (.int j) K = (MulOk i j ∧ K (.int (i * j))) := rfl
theorem mod_int {i j : Int} {K : D → Prop} : binD .Mod (.int i) (.int j) K = (j ≠ 0 ∧ K (.int (fm i j))) := rfl
theorem div_int {i j : Int} {K : D → Prop} : binD .FloorDiv (.int i) (.int j) K = (DivOk j ∧ K (.int (fd i j))) := rfl
theorem idx_lst {i : Int} {K : D → Prop} : idxD (.lst ds) (.int i) K = (∃ d, atI ds i = some d ∧ K d) := rfl
theorem idx_tup {i : Int} {K : D → Prop} : idxD (.tup ds) (.int i) K = (∃ d, atI ds i = some d ∧ K d) := rfl
theorem wIf_t {A B : Prop} : wIf true A B = A := rfl
theorem wIf_f {A B : Prop} : wIf false A B = B := rfl
theorem lt_int {i j : Int} {K : D → Prop} : cmpD .Lt (.int i) (.int j) K = K (.bl (decide (i < j))) := rfl
theorem le_int {i j : Int} {K : D → Prop} : cmpD .LtE (.int i) (.int j) K = K (.bl (decide (i ≤ j))) := rfl
theorem gt_int {i j : Int} {K : D → Prop} : cmpD .Gt (.int i) (.int j) K = K (.bl (decide (j < i))) := rfl
theorem ge_int {i j : Int} {K : D → Prop} : cmpD .GtE (.int i) (.int j) K = K (.bl (decide (j ≤ i))) := rfl
theorem eq_int {i j : Int} {K : D → Prop} : cmpD .Eq (.int i) (.int j) K = K (.bl (decide (i = j))) := rfl
theorem ne_int {i j : Int} {K : D → Prop} : cmpD .NotEq (.int i) (.int j) K = K (.bl (!decide (i = j))) := rfl
theorem mulok_r {i j : Int} (h : -(2 ^ 64) < j ∧ j < 2 ^ 64) : MulOk i j := .inr (.inl h)
theorem mulok_l {i j : Int} (h : -(2 ^ 64) < i ∧ i < 2 ^ 64) : MulOk i j := .inl h
theorem bi_int {i : Int} {K : D → Prop} (h : K (.int i)) : biD "int" [.int i] K := ⟨i, rfl, h⟩
end
theorem cdel_id {C : Cs} {a : Addr} (h : C a = none) : cdel C a = C := by
  funext b; unfold cdel
  split
  · rename_i e; rw [e, h]
  · rfl
theorem cdel_cset_ne {C : Cs} {a b : Addr} {o : CO} (h : a ≠ b) : cdel (cset C a o) b = cset (cdel C b) a o := by
  funext c
  show (if c = b then none else if c = a then some o else C c) = if c = a then some o else if c = b then none else C c
  by_cases h1 : c = b
  · subst h1
    rw [if_pos rfl, if_neg (Ne.symm h), if_pos rfl]
  · by_cases h2 : c = a
    · rw [if_neg h1, if_pos h2, if_pos h2]
    · rw [if_neg h1, if_neg h2, if_neg h2, if_neg h1]
theorem rngL_map (lo : Int) (n : Nat) : rngL lo 1 n = (List.range n).map fun i => D.int (lo + (i : Nat)) := by
  apply List.ext_getElem?
  intro i
  by_cases h : i < n
  · rw [rngL_get _ _ _ _ h, List.getElem?_map, List.getElem?_range h, Int.mul_one]
    rfl
  · rw [List.getElem?_eq_none (by rw [rngL_len]; omega), List.getElem?_eq_none (by simp; omega)]
theorem atI_nat {α : Type} {xs : List α} {i : Nat} {x : α} (h : xs[i]? = some x) : atI xs (i : Int) = some x := by
  have hl := (List.getElem?_eq_some_iff.mp h).1
  unfold atI ixN
  rw [if_pos (by omega), if_pos (by omega)]
  simpa using h
end Mp

set_option Elab.async false
set_option linter.all false
set_option maxRecDepth 100000
set_option maxHeartbeats 4000000
/-! Mp, part O: a joined text split again. -/
namespace Mp
open PySem PySem.Spec L2
theorem str_ext {a b : Str} (h : a.cps.toList = b.cps.toList) : a = b := by
  cases a
  cases b
  congr 1
  exact Array.toList_inj.mp h
theorem app_list (a b : Str) : (a ++ b).cps.toList = a.cps.toList ++ b.cps.toList := by
  show (a.cps ++ b.cps).toList = _
  rw [Array.toList_append]
theorem cut_uniq {c : Nat} : ∀ {a b s t : List Nat}, c ∉ a → c ∉ b → a ++ c :: s = b ++ c :: t → a = b ∧ s = t
  | [], [], s, t, _, _, e => ⟨rfl, by injection e⟩
  | [], x :: b, s, t, _, hb, e => by
    injection e with e1 e2
    exact absurd (by rw [e1]; exact List.mem_cons_self ..) hb
  | x :: a, [], s, t, ha, _, e => by
    injection e with e1 e2
    exact absurd (by rw [← e1]; exact List.mem_cons_self ..) ha
  | x :: a, y :: b, s, t, ha, hb, e => by
    injection e with e1 e2
    obtain ⟨q, r⟩ := cut_uniq (fun h => ha (List.mem_cons_of_mem _ h)) (fun h => hb (List.mem_cons_of_mem _ h)) e2
    exact ⟨by rw [e1, q], r⟩
theorem join_uniq {c : Nat} : ∀ {xs ys : List Str}, xs ≠ [] → ys ≠ [] → (∀ p ∈ xs, c ∉ p.cps.toList) → (∀ p ∈ ys, c ∉ p.cps.toList) →
    (Str.join ⟨#[c]⟩ xs).cps.toList = (Str.join ⟨#[c]⟩ ys).cps.toList → xs = ys
  | [], _, h, _, _, _, _ => absurd rfl h
  | _, [], _, h, _, _, _ => absurd rfl h
  | [x], [y], _, _, _, _, e => by
    have e : x.cps.toList = y.cps.toList := e
    rw [str_ext e]
  | [x], y :: y' :: ys, _, _, hx, hy, e => by
    have e : x.cps.toList = (y ++ ⟨#[c]⟩ ++ Str.join ⟨#[c]⟩ (y' :: ys)).cps.toList := e
    rw [app_list, app_list] at e
    exact absurd (by rw [e]; simp) (hx x (List.mem_cons_self ..))
  | x :: x' :: xs, [y], _, _, hx, hy, e => by
    have e : (x ++ ⟨#[c]⟩ ++ Str.join ⟨#[c]⟩ (x' :: xs)).cps.toList = y.cps.toList := e
    rw [app_list, app_list] at e
    exact absurd (by rw [← e]; simp) (hy y (List.mem_cons_self ..))
  | x :: x' :: xs, y :: y' :: ys, _, _, hx, hy, e => by
    have e : (x ++ ⟨#[c]⟩ ++ Str.join ⟨#[c]⟩ (x' :: xs)).cps.toList = (y ++ ⟨#[c]⟩ ++ Str.join ⟨#[c]⟩ (y' :: ys)).cps.toList := e
    rw [app_list, app_list, app_list, app_list, List.append_assoc, List.append_assoc] at e
    obtain ⟨e1, e2⟩ := cut_uniq (hx x (List.mem_cons_self ..)) (hy y (List.mem_cons_self ..)) e
    rw [str_ext e1, join_uniq (List.cons_ne_nil _ _) (List.cons_ne_nil _ _) (fun p hp => hx p (List.mem_cons_of_mem _ hp)) (fun p hp => hy p (List.mem_cons_of_mem _ hp)) e2]
theorem split_ne (x y : Str) : Txt.split x y ≠ [] := by
  unfold Txt.split
  split
  · exact List.cons_ne_nil _ _
  · split
    · exact List.cons_ne_nil _ _
    · rw [StrLaws.partsBetween_eq]
      obtain ⟨p, r, e⟩ := StrLaws.partsFrom_ne x y.length 0 (Builtin.Str.occurrences x y 0 x.length (x.length + 1))
      rw [e]
      exact List.cons_ne_nil _ _
/-- what was joined by a sign that no part has, split by it -/
theorem split_join {c : Nat} {ys : List Str} (h : ys ≠ []) (hf : ∀ p ∈ ys, c ∉ p.cps.toList) : Txt.split (Txt.join ⟨#[c]⟩ ys) ⟨#[c]⟩ = ys := by
  refine join_uniq (split_ne _ _) h (StrLaws.split_free _ _) hf ?_
  rw [StrLaws.join_split]
  unfold Txt.join
  rw [StrLaws.glued_eq_join]
theorem join_split_T (x y : Str) : Txt.join y (Txt.split x y) = x := by
  unfold Txt.join
  rw [StrLaws.glued_eq_join, StrLaws.join_split]
theorem join_cons2 (c x y : Str) (r : List Str) : Txt.join c (x :: y :: r) = x ++ c ++ Txt.join c (y :: r) := by
  unfold Txt.join
  rw [StrLaws.glued_eq_join, StrLaws.glued_eq_join]
  rfl
theorem join_one (c x : Str) : Txt.join c [x] = x := by
  unfold Txt.join
  rw [StrLaws.glued_eq_join]
  rfl
theorem join_free {c d : Nat} (hcd : c ≠ d) : ∀ {ys : List Str}, (∀ p ∈ ys, c ∉ p.cps.toList) → c ∉ (Txt.join ⟨#[d]⟩ ys).cps.toList
  | [], _ => by
    unfold Txt.join
    rw [StrLaws.glued_eq_join]
    exact List.not_mem_nil
  | [x], h => by
    rw [join_one]
    exact h x (List.mem_cons_self ..)
  | x :: y :: r, h => by
    rw [join_cons2, app_list, app_list]
    intro q
    rcases List.mem_append.mp q with q | q
    · rcases List.mem_append.mp q with q | q
      · exact h x (List.mem_cons_self ..) q
      · exact hcd (by simpa using q)
    · exact join_free hcd (fun p hp => h p (List.mem_cons_of_mem _ hp)) q
theorem dputK_len (ks : List Key) (k : Key) : (dputK ks k).length ≤ ks.length + 1 := by
  unfold dputK
  split
  · exact Nat.le_succ _
  · rw [List.length_append, List.length_singleton]
    exact Nat.le_refl _
theorem dcomp_fold {tg : MT} {tt : Ro → Cs → KT → Prop} {tk tv : Ro → Cs → KE → Prop} {ρ0 : Ro} (y : D → D) (g : D → Key) (f : D → D) {K : List Key → List D → Cs → Prop} {C : Cs} (hk : ∀ d (K : Key → Prop), K (g d) → keyD (y d) K) :
    ∀ (ds : List D) (p : List Key × List D), (∀ d ∈ ds, ∀ (Q : D → D → Cs → Prop) (E : Cs → Prop), Q (y d) (f d) C → wTg tg d ρ0 fun ρ1 => tt ρ1 C fun b ρ2 C2 => wIf b (tk ρ2 C2 fun y ρ3 C3 => tv ρ3 C3 fun z _ C4 => Q y z C4) (E C2)) →
    p.1.length + ds.length ≤ sizeLine → K (ds.foldl (fun p d => (dputK p.1 (g d), dputD p.1 p.2 (g d) (f d))) p).1 (ds.foldl (fun p d => (dputK p.1 (g d), dputD p.1 p.2 (g d) (f d))) p).2 C →
    dcompW tg tt tk tv ρ0 ds C p.1 p.2 K
  | [], p, _, _, k => k
  | d :: ds, p, h, hl, k => by
    rw [List.length_cons] at hl
    refine h d (List.mem_cons_self ..) (fun y z C4 => keyD y fun k => p.1.length < sizeLine ∧ dcompW tg tt tk tv ρ0 ds C4 (dputK p.1 k) (dputD p.1 p.2 k z) K) _ (hk d _ ⟨by omega, ?_⟩)
    have := dputK_len p.1 (g d)
    exact dcomp_fold y g f hk ds (dputK p.1 (g d), dputD p.1 p.2 (g d) (f d)) (fun x hx => h x (List.mem_cons_of_mem _ hx)) (by show (dputK p.1 (g d)).length + _ ≤ _; omega) k
theorem dcomp_fold' {tg : MT} {tt : Ro → Cs → KT → Prop} {tk tv : Ro → Cs → KE → Prop} {ρ0 : Ro} (y : D → D) (g : D → Key) (f : D → D) {K : List Key → List D → Cs → Prop} {C : Cs} (hk : ∀ d (K : Key → Prop), K (g d) → keyD (y d) K)
    (ds : List D) {r : List Key × List D} (hr : ds.foldl (fun p d => (dputK p.1 (g d), dputD p.1 p.2 (g d) (f d))) ([], []) = r)
    (h : ∀ d ∈ ds, ∀ (Q : D → D → Cs → Prop) (E : Cs → Prop), Q (y d) (f d) C → wTg tg d ρ0 fun ρ1 => tt ρ1 C fun b ρ2 C2 => wIf b (tk ρ2 C2 fun y ρ3 C3 => tv ρ3 C3 fun z _ C4 => Q y z C4) (E C2))
    (hl : ds.length ≤ sizeLine) (k : K r.1 r.2 C) : dcompW tg tt tk tv ρ0 ds C [] [] K := by
  subst hr
  exact dcomp_fold y g f hk ds ([], []) h (by simpa using hl) k
/-- what == takes apart, to depth n -/
def CmpN (n : Nat) (d : D) : Prop := nice d = true ∧ (toPy d).canLay0 = true ∧ (toPy d).depth ≤ n
theorem cmpN_all {n : Nat} : ∀ {ds : List D}, (∀ d ∈ ds, CmpN n d) → nices ds = true ∧ PyData.canLayAll0 (toPys ds) = true ∧ PyData.depthAll (toPys ds) ≤ n
  | [], _ => ⟨rfl, rfl, Nat.zero_le _⟩
  | d :: ds, h => by
    obtain ⟨a, b, c⟩ := h d (List.mem_cons_self ..)
    obtain ⟨a', b', c'⟩ := cmpN_all (ds := ds) fun x hx => h x (List.mem_cons_of_mem _ hx)
    refine ⟨?_, ?_, ?_⟩
    · show (nice d && nices ds) = true
      rw [a, a']
      rfl
    · show ((toPy d).canLay0 && PyData.canLayAll0 (toPys ds)) = true
      rw [b, b']
      rfl
    · exact Nat.max_le.mpr ⟨c, c'⟩
theorem cmpN_lst {n : Nat} {ds : List D} (h : ∀ d ∈ ds, CmpN n d) : CmpN (n + 1) (.lst ds) := by
  obtain ⟨a, b, c⟩ := cmpN_all h
  exact ⟨a, b, Nat.succ_le_succ c⟩
theorem cmpN_tup {n : Nat} {ds : List D} (h : ∀ d ∈ ds, CmpN n d) : CmpN (n + 1) (.tup ds) := by
  obtain ⟨a, b, c⟩ := cmpN_all h
  exact ⟨a, b, Nat.succ_le_succ c⟩
theorem cmpN_int {n : Nat} {i : Int} : CmpN n (.int i) := ⟨rfl, rfl, Nat.zero_le _⟩
theorem cmpN_non {n : Nat} : CmpN n .non := ⟨rfl, rfl, Nat.zero_le _⟩
theorem cmpN_bl {n : Nat} {b : Bool} : CmpN n (.bl b) := ⟨rfl, rfl, Nat.zero_le _⟩
theorem cmp_of {n : Nat} {d : D} (h : CmpN n d) (hn : n ≤ 64) : Cmp d := by
  obtain ⟨a, b, c⟩ := h
  refine ⟨a, ?_⟩
  unfold SeqAt.shaped
  rw [b, decide_eq_true (Nat.le_trans c hn)]
  rfl
theorem in_lst_slow {x : D} {ds : List D} {K : D → Prop} (h : (flatD x && ds.all flatD) = false) (hx : Cmp x) (hl : Cmp (.lst ds)) (k : K (.bl (ds.any fun z => eqP z x))) : cmpD .In x (.lst ds) K := by
  show wIf (flatD x && ds.all flatD) (K (.bl (ds.any fun z => eqF z x))) ((Cmp x ∧ Cmp (.lst ds)) ∧ K (.bl (ds.any fun z => eqP z x)))
  rw [h]
  exact ⟨⟨hx, hl⟩, k⟩
theorem ne_lst {x y : List D} {K : D → Prop} (hx : Cmp (.lst x)) (hy : Cmp (.lst y)) (k : K (.bl (!eqP (.lst x) (.lst y)))) : cmpD .NotEq (.lst x) (.lst y) K := ⟨⟨hx, hy⟩, k⟩
theorem eq_lst {x y : List D} {K : D → Prop} (hx : Cmp (.lst x)) (hy : Cmp (.lst y)) (k : K (.bl (eqP (.lst x) (.lst y)))) : cmpD .Eq (.lst x) (.lst y) K := ⟨⟨hx, hy⟩, k⟩
end Mp

set_option Elab.async false
set_option linter.all false
set_option maxRecDepth 100000
set_option maxHeartbeats 4000000
/-! bodies of defs in the small syntax, printed by bod.py -/
namespace Mp.g
open PySem PySem.Spec L2 Mp
/-- can_in(line) -/
def n_can_in : List Str := ["line", "texts", "can"]
def m_can_in : List MS := [
    (.asg 1 (.comp false (.fstr [(.cst (.str "can ")), (.fmt (.var 2 false))]) (.nm 2) (.rng [(.cst (.int 1)), (.bin .Add (.gint "MOST_CAN" 20) (.cst (.int 1)))]) [] [("can", 2)])),
    (.ret (.ite (.cmp .In (.var 0 false) (.var 1 false)) (.bin .Add (.bm (.var 1 false) "list" "index" [(.var 0 false)]) (.cst (.int 1))) (.cst .none)))]
/-- items_in(line) -/
def n_items_in : List Str := ["line", "words", "known", "litres", "word"]
def m_items_in : List MS := [
    (.asg 1 (.bm (.var 0 false) "str" "split" [(.cst (.str " "))])),
    (.asg 2 (.dcomp true (.bi "str" [(.var 3 false)]) (.var 3 false) (.nm 3) (.rng [(.bin .Add (.gint "MOST_LITRES" 9) (.cst (.int 1)))]) [] [("litres", 3)])),
    (.setI (.var 2 false) (.cst (.str "tap")) (.cst .none)),
    (.ite (.bo .Or [(.cmp .NotEq (.idx (.var 1 false) (.cst (.int 0))) (.cst (.str "items"))), (.not (.chain .LtE .LtE (.cst (.int 1)) (.bin .Sub (.bi "len" [(.var 1 false)]) (.cst (.int 1))) (.gint "MOST_ITEMS" 12)))]) [(.ret (.cst .none))] []),
    (.ret (.ite (.bi "all" [(.comp false (.cmp .In (.var 4 false) (.var 2 false)) (.nm 4) (.it (.slice (.var 1 false) (some (.cst (.int 1))) none)) [] [("word", 4)])]) (.bi "tuple" [(.comp false (.idx (.var 2 false) (.var 4 false)) (.nm 4) (.it (.slice (.var 1 false) (some (.cst (.int 1))) none)) [] [("word", 4)])]) (.cst .none)))]
/-- Garden.__init__(self, text) -/
def n_Garden_init : List Str := ["self", "text", "lines", "found"]
def m_Garden_init (c_Garden f_can_in f_items_in : Nat) : List MS := [
    (.asg 2 (.ite (.isT (.var 1 false) "str") (.bm (.var 1 false) "str" "split" [(.cst (.str "\n"))]) (.lst false []))),
    (.asg 3 (.ite (.cmp .Eq (.bi "len" [(.var 2 false)]) (.gint "LINES" 2)) (.lst false [(.call f_can_in [(.idx (.var 2 false) (.cst (.int 0)))] 0), (.call f_items_in [(.idx (.var 2 false) (.cst (.int 1)))] 0)]) (.lst false [(.cst .none)]))),
    (.ite (.cmp .In (.cst .none) (.var 3 false)) [.never] []),
    (.setF (.var 0 false) c_Garden 0 (.var 1 false)),
    (.setF (.var 0 false) c_Garden 1 (.idx (.var 3 false) (.cst (.int 0)))),
    (.setF (.var 0 false) c_Garden 2 (.idx (.var 3 false) (.cst (.int 1))))]
/-- Garden.can(self) -/
def n_Garden_can : List Str := ["self"]
def m_Garden_can (c_Garden : Nat) : List MS := [
    (.ret (.fld (.var 0 false) c_Garden 1))]
/-- Garden.beds(self) -/
def n_Garden_beds : List Str := ["self"]
def m_Garden_beds (c_Garden : Nat) : List MS := [
    (.ret (.fld (.var 0 false) c_Garden 2))]
/-- Garden.text(self) -/
def n_Garden_text : List Str := ["self"]
def m_Garden_text (c_Garden : Nat) : List MS := [
    (.ret (.fld (.var 0 false) c_Garden 0))]
/-- up_to(garden, place) -/
def n_up_to : List Str := ["garden", "place", "beds", "item", "rounds", "rest"]
def m_up_to (c_Garden f_Garden_beds : Nat) : List MS := [
    (.asg 2 (.comp false (.bo .Or [(.var 3 false), (.cst (.int 0))]) (.nm 3) (.it (.prop (.var 0 false) c_Garden f_Garden_beds)) [] [("item", 3)])),
    (.tasg (.tp [4, 5]) (.bi "divmod" [(.var 1 false), (.bi "len" [(.var 2 false)])])),
    (.ret (.bin .Add (.bin .Mult (.var 4 false) (.bi "sum" [(.var 2 false)])) (.bi "sum" [(.slice (.var 2 false) none (some (.var 5 false)))])))]
/-- gcd_of(one, other) -/
def n_gcd_of : List Str := ["one", "other"]
def m_gcd_of : List MS := [
    (.while (.cmp .Gt (.var 1 false) (.cst (.int 0))) [(.par [0, 1] [(.var 1 false), (.bin .Mod (.var 0 false) (.var 1 false))])]),
    (.ret (.var 0 false))]
/-- place_of_litre(garden, number) -/
def n_place_of_litre : List Str := ["garden", "number", "beds", "item", "rounds", "rest", "at"]
def m_place_of_litre (c_Garden f_Garden_beds : Nat) : List MS := [
    (.asg 2 (.comp false (.bo .Or [(.var 3 false), (.cst (.int 0))]) (.nm 3) (.it (.prop (.var 0 false) c_Garden f_Garden_beds)) [] [("item", 3)])),
    (.tasg (.tp [4, 5]) (.bi "divmod" [(.bin .Sub (.var 1 false) (.cst (.int 1))), (.bi "sum" [(.var 2 false)])])),
    (.asg 6 (.cst (.int 0))),
    (.while (.cmp .GtE (.var 5 false) (.cst (.int 0))) [(.aug 5 .Sub (.idx (.var 2 false) (.var 6 false))), (.aug 6 .Add (.cst (.int 1)))]),
    (.ret (.bin .Add (.bin .Mult (.var 4 false) (.bi "len" [(.var 2 false)])) (.var 6 false)))]
/-- sum_of_places(garden, first, count) -/
def n_sum_of_places : List Str := ["garden", "first", "count", "total", "turn", "ahead", "found", "at", "often"]
def m_sum_of_places (c_Garden f_Garden_beds f_Garden_can f_gcd_of f_place_of_litre f_up_to : Nat) : List MS := [
    (.ite (.cmp .Eq (.var 2 false) (.cst (.int 0))) [(.ret (.cst (.int 0)))] []),
    (.asg 3 (.call f_up_to [(.var 0 false), (.bi "len" [(.prop (.var 0 false) c_Garden f_Garden_beds)])] 0)),
    (.asg 4 (.bin .FloorDiv (.var 3 false) (.call f_gcd_of [(.var 3 false), (.prop (.var 0 false) c_Garden f_Garden_can)] 0))),
    (.asg 5 (.bin .Mult (.bin .FloorDiv (.bin .Mult (.var 4 false) (.prop (.var 0 false) c_Garden f_Garden_can)) (.var 3 false)) (.bi "len" [(.prop (.var 0 false) c_Garden f_Garden_beds)]))),
    (.asg 6 (.cst (.int 0))),
    (.for (.nm 7) (.rng [(.bi "min" [(.var 4 false), (.var 2 false)])]) [(.asg 8 (.bin .Add (.bin .FloorDiv (.bin .Sub (.bin .Sub (.var 2 false) (.var 7 false)) (.cst (.int 1))) (.var 4 false)) (.cst (.int 1)))), (.aug 6 .Add (.bin .Add (.bin .Mult (.var 8 false) (.call f_place_of_litre [(.var 0 false), (.bin .Add (.var 1 false) (.bin .Mult (.var 7 false) (.prop (.var 0 false) c_Garden f_Garden_can)))] 0)) (.bin .Mult (.var 5 false) (.bin .FloorDiv (.bin .Mult (.var 8 false) (.bin .Sub (.var 8 false) (.cst (.int 1)))) (.cst (.int 2))))))]),
    (.ret (.var 6 false))]
/-- Gap.__init__(self, garden, left, right) -/
def n_Gap_init : List Str := ["self", "garden", "left", "right"]
def m_Gap_init (c_Gap f_up_to : Nat) : List MS := [
    (.setF (.var 0 false) c_Gap 0 (.var 1 false)),
    (.setF (.var 0 false) c_Gap 1 (.var 2 false)),
    (.setF (.var 0 false) c_Gap 2 (.var 3 false)),
    (.setF (.var 0 false) c_Gap 3 (.call f_up_to [(.var 1 false), (.var 2 false)] 0)),
    (.setF (.var 0 false) c_Gap 4 (.bin .Sub (.call f_up_to [(.var 1 false), (.bin .Sub (.var 3 false) (.cst (.int 1)))] 0) (.fld (.var 0 false) c_Gap 3)))]
/-- Gap.from_left(self, litres) -/
def n_Gap_from_left : List Str := ["self", "litres", "count", "first"]
def m_Gap_from_left (c_Gap c_Garden f_Garden_can f_sum_of_places : Nat) : List MS := [
    (.asg 2 (.neg (.bin .FloorDiv (.neg (.var 1 false)) (.prop (.fld (.var 0 false) c_Gap 0) c_Garden f_Garden_can)))),
    (.asg 3 (.bin .Sub (.bin .Add (.fld (.var 0 false) c_Gap 3) (.var 1 false)) (.bin .Mult (.bin .Sub (.var 2 false) (.cst (.int 1))) (.prop (.fld (.var 0 false) c_Gap 0) c_Garden f_Garden_can)))),
    (.ret (.bin .Mult (.cst (.int 2)) (.bin .Sub (.call f_sum_of_places [(.fld (.var 0 false) c_Gap 0), (.var 3 false), (.var 2 false)] 0) (.bin .Mult (.var 2 false) (.fld (.var 0 false) c_Gap 1)))))]
/-- Gap.from_right(self, litres) -/
def n_Gap_from_right : List Str := ["self", "litres", "count", "first"]
def m_Gap_from_right (c_Gap c_Garden f_Garden_can f_sum_of_places : Nat) : List MS := [
    (.asg 2 (.neg (.bin .FloorDiv (.neg (.var 1 false)) (.prop (.fld (.var 0 false) c_Gap 0) c_Garden f_Garden_can)))),
    (.asg 3 (.bin .Add (.bin .Sub (.bin .Add (.fld (.var 0 false) c_Gap 3) (.fld (.var 0 false) c_Gap 4)) (.var 1 false)) (.cst (.int 1)))),
    (.ret (.bin .Mult (.cst (.int 2)) (.bin .Sub (.bin .Mult (.var 2 false) (.fld (.var 0 false) c_Gap 2)) (.call f_sum_of_places [(.fld (.var 0 false) c_Gap 0), (.var 3 false), (.var 2 false)] 0))))]
/-- Gap.both(self, wanted, litres) -/
def n_Gap_both : List Str := ["self", "wanted", "litres"]
def m_Gap_both (c_Gap f_Gap_from_left f_Gap_from_right : Nat) : List MS := [
    (.ret (.bin .Add (.meth (.var 0 false) c_Gap f_Gap_from_left [(.var 2 false)]) (.meth (.var 0 false) c_Gap f_Gap_from_right [(.bin .Sub (.var 1 false) (.var 2 false))])))]
/-- Gap.is_better(self, wanted, litres) -/
def n_Gap_is_better : List Str := ["self", "wanted", "litres", "farthest", "nearest"]
def m_Gap_is_better (c_Gap c_Garden f_Garden_can f_place_of_litre : Nat) : List MS := [
    (.asg 3 (.call f_place_of_litre [(.fld (.var 0 false) c_Gap 0), (.bin .Add (.bin .Add (.fld (.var 0 false) c_Gap 3) (.var 2 false)) (.prop (.fld (.var 0 false) c_Gap 0) c_Garden f_Garden_can))] 0)),
    (.asg 4 (.call f_place_of_litre [(.fld (.var 0 false) c_Gap 0), (.bin .Add (.bin .Add (.bin .Sub (.bin .Add (.fld (.var 0 false) c_Gap 3) (.fld (.var 0 false) c_Gap 4)) (.var 1 false)) (.var 2 false)) (.cst (.int 1)))] 0)),
    (.ret (.cmp .Lt (.bin .Sub (.var 3 false) (.fld (.var 0 false) c_Gap 1)) (.bin .Sub (.fld (.var 0 false) c_Gap 2) (.var 4 false))))]
/-- Gap.best_with(self, wanted, rest) -/
def n_Gap_best_with : List Str := ["self", "wanted", "rest", "low", "high", "middle", "here"]
def m_Gap_best_with (c_Gap c_Garden f_Gap_is_better f_Garden_can : Nat) : List MS := [
    (.par [3, 4] [(.cst (.int 0)), (.bin .FloorDiv (.bin .Sub (.var 1 false) (.var 2 false)) (.prop (.fld (.var 0 false) c_Gap 0) c_Garden f_Garden_can))]),
    (.while (.cmp .Lt (.var 3 false) (.var 4 false)) [(.asg 5 (.bin .FloorDiv (.bin .Add (.var 3 false) (.var 4 false)) (.cst (.int 2)))), (.asg 6 (.bin .Add (.var 2 false) (.bin .Mult (.var 5 false) (.prop (.fld (.var 0 false) c_Gap 0) c_Garden f_Garden_can)))), (.ite (.meth (.var 0 false) c_Gap f_Gap_is_better [(.var 1 false), (.var 6 false)]) [(.asg 3 (.bin .Add (.var 5 false) (.cst (.int 1))))] [(.asg 4 (.var 5 false))])]),
    (.ret (.bin .Add (.var 2 false) (.bin .Mult (.var 3 false) (.prop (.fld (.var 0 false) c_Gap 0) c_Garden f_Garden_can))))]
/-- Gap.best_split(self) -/
def n_Gap_best_split : List Str := ["self", "wanted", "tries", "rest", "best", "litres"]
def m_Gap_best_split (c_Gap c_Garden f_Gap_best_with f_Gap_both f_Garden_can : Nat) : List MS := [
    (.asg 1 (.bi "max" [(.cst (.int 0)), (.bin .Sub (.fld (.var 0 false) c_Gap 4) (.bin .Mult (.cst (.int 2)) (.prop (.fld (.var 0 false) c_Gap 0) c_Garden f_Garden_can)))])),
    (.asg 2 (.comp false (.meth (.var 0 false) c_Gap f_Gap_best_with [(.var 1 false), (.var 3 false)]) (.nm 3) (.rng [(.bi "min" [(.prop (.fld (.var 0 false) c_Gap 0) c_Garden f_Garden_can), (.bin .Add (.var 1 false) (.cst (.int 1)))])]) [] [("rest", 3)])),
    (.asg 4 (.idx (.bi "min" [(.comp false (.tup [(.meth (.var 0 false) c_Gap f_Gap_both [(.var 1 false), (.var 5 false)]), (.var 5 false)]) (.nm 5) (.it (.var 2 false)) [] [("litres", 5)])]) (.cst (.int 1)))),
    (.ret (.tup [(.var 4 false), (.bin .Sub (.var 1 false) (.var 4 false))]))]
/-- Gap.cost_alone(self) -/
def n_Gap_cost_alone : List Str := ["self"]
def m_Gap_cost_alone (c_Gap f_Gap_from_left : Nat) : List MS := [
    (.ret (.meth (.var 0 false) c_Gap f_Gap_from_left [(.fld (.var 0 false) c_Gap 4)]))]
/-- Gap.cost_across(self) -/
def n_Gap_cost_across : List Str := ["self", "litres", "others"]
def m_Gap_cost_across (c_Gap f_Gap_best_split f_Gap_from_left f_Gap_from_right : Nat) : List MS := [
    (.tasg (.tp [1, 2]) (.meth (.var 0 false) c_Gap f_Gap_best_split [])),
    (.ret (.bin .Add (.bin .Add (.bin .Mult (.cst (.int 2)) (.bin .Sub (.fld (.var 0 false) c_Gap 2) (.fld (.var 0 false) c_Gap 1))) (.meth (.var 0 false) c_Gap f_Gap_from_left [(.var 1 false)])) (.meth (.var 0 false) c_Gap f_Gap_from_right [(.var 2 false)])))]
/-- check_garden(value) -/
def n_check_garden : List Str := ["value"]
def m_check_garden (c_Garden : Nat) : List MS := [
    (.ite (.not (.isC (.var 0 false) c_Garden)) [.never] [])]
/-- is_integer(value) -/
def n_is_integer : List Str := ["value"]
def m_is_integer : List MS := [
    (.ret (.bo .And [(.isT (.var 0 false) "int"), (.not (.isT (.var 0 false) "bool"))]))]
/-- is_between(value, least, most) -/
def n_is_between : List Str := ["value", "least", "most"]
def m_is_between (f_is_integer : Nat) : List MS := [
    (.ret (.bo .And [(.call f_is_integer [(.var 0 false)] 0), (.chain .LtE .LtE (.var 1 false) (.var 0 false) (.var 2 false))]))]
/-- check_number(value, least, most) -/
def n_check_number : List Str := ["value", "least", "most"]
def m_check_number (f_is_between : Nat) : List MS := [
    (.ite (.not (.call f_is_between [(.var 0 false), (.var 1 false), (.var 2 false)] 0)) [.never] [])]
/-- item_at(garden, place) -/
def n_item_at : List Str := ["garden", "place"]
def m_item_at (c_Garden f_Garden_beds : Nat) : List MS := [
    (.ret (.idx (.prop (.var 0 false) c_Garden f_Garden_beds) (.bin .Mod (.bin .Sub (.var 1 false) (.cst (.int 1))) (.bi "len" [(.prop (.var 0 false) c_Garden f_Garden_beds)]))))]
/-- is_open(garden, left, right) -/
def n_is_open : List Str := ["garden", "left", "right", "length", "place"]
def m_is_open (c_Garden f_Garden_beds f_item_at : Nat) : List MS := [
    (.asg 3 (.bi "len" [(.prop (.var 0 false) c_Garden f_Garden_beds)])),
    (.ret (.bi "all" [(.comp false (.cmp .IsNot (.call f_item_at [(.var 0 false), (.var 4 false)] 0) (.cst .none)) (.nm 4) (.rng [(.bin .Add (.var 1 false) (.cst (.int 1))), (.bi "min" [(.var 2 false), (.bin .Add (.bin .Add (.var 1 false) (.var 3 false)) (.cst (.int 1)))])]) [] [("place", 4)])]))]
/-- gap_between(garden, left, right) -/
def n_gap_between : List Str := ["garden", "left", "right"]
def m_gap_between (c_Gap f_Gap_init f_check_garden f_check_number f_is_open : Nat) : List MS := [
    (.expr (.call f_check_garden [(.var 0 false)] 0)),
    (.expr (.call f_check_number [(.var 1 false), (.cst (.int 0)), (.gint "MOST_PLACE" 1000000000000000000000000000000)] 0)),
    (.expr (.call f_check_number [(.var 2 false), (.cst (.int 0)), (.gint "MOST_PLACE" 1000000000000000000000000000000)] 0)),
    (.ite (.bo .Or [(.cmp .GtE (.var 1 false) (.var 2 false)), (.not (.call f_is_open [(.var 0 false), (.var 1 false), (.var 2 false)] 0))]) [.never] []),
    (.ret (.make false c_Gap f_Gap_init [(.var 0 false), (.var 1 false), (.var 2 false)] 0))]
/-- alone(garden, left, right) -/
def n_alone : List Str := ["garden", "left", "right"]
def m_alone (c_Gap f_Gap_cost_alone f_gap_between : Nat) : List MS := [
    (.ret (.meth (.call f_gap_between [(.var 0 false), (.var 1 false), (.var 2 false)] 0) c_Gap f_Gap_cost_alone []))]
/-- across(garden, left, right) -/
def n_across : List Str := ["garden", "left", "right"]
def m_across (c_Gap f_Gap_cost_across f_gap_between : Nat) : List MS := [
    (.ret (.meth (.call f_gap_between [(.var 0 false), (.var 1 false), (.var 2 false)] 0) c_Gap f_Gap_cost_across []))]
/-- split(garden, left, right) -/
def n_split : List Str := ["garden", "left", "right"]
def m_split (c_Gap f_Gap_best_split f_gap_between : Nat) : List MS := [
    (.ret (.meth (.call f_gap_between [(.var 0 false), (.var 1 false), (.var 2 false)] 0) c_Gap f_Gap_best_split []))]
/-- _law_dip(_law_well_here, _law_size) -/
def n__law_dip : List Str := ["_law_well_here", "_law_size", "_law_digit"]
def m__law_dip : List MS := [
    (.setI (.var 0 false) (.cst (.int 2)) (.bin .Add (.idx (.var 0 false) (.cst (.int 2))) (.cst (.int 1)))),
    (.ite (.cmp .Gt (.idx (.var 0 false) (.cst (.int 0))) (.cst (.int 0))) [(.asg 2 (.bin .Mod (.bi "int" [(.idx (.var 0 false) (.cst (.int 0)))]) (.var 1 false))), (.setI (.var 0 false) (.cst (.int 0)) (.bin .FloorDiv (.bi "int" [(.idx (.var 0 false) (.cst (.int 0)))]) (.var 1 false))), (.ret (.var 2 false))] []),
    (.setI (.var 0 false) (.cst (.int 1)) (.bin .Mod (.bi "int" [(.bin .Add (.bin .Add (.bin .Mult (.idx (.var 0 false) (.cst (.int 1))) (.cst (.int 16807))) (.bin .Mult (.cst (.int 4999)) (.idx (.var 0 false) (.cst (.int 2))))) (.cst (.int 13)))]) (.cst (.int 2147483647)))),
    (.ret (.bin .Mod (.bi "int" [(.bin .FloorDiv (.idx (.var 0 false) (.cst (.int 1))) (.cst (.int 512)))]) (.var 1 false)))]
/-- _law_sketch(_law_well_here, _law_most_load, _law_most_items, _law_most_wish, _law_tapped) -/
def n__law_sketch : List Str := ["_law_well_here", "_law_most_load", "_law_most_items", "_law_most_wish", "_law_tapped", "_law_load", "_law_soil", "_law_turn", "_law_bare"]
def m__law_sketch (f__law_dip : Nat) : List MS := [
    (.par [5, 6] [(.bin .Add (.cst (.int 1)) (.call f__law_dip [(.var 0 false), (.var 1 false)] 0)), (.lst true [])]),
    (.for (.nm 7) (.rng [(.bin .Add (.cst (.int 1)) (.call f__law_dip [(.var 0 false), (.var 2 false)] 0))]) [(.asg 8 (.cmp .Eq (.call f__law_dip [(.var 0 false), (.cst (.int 4))] 0) (.cst (.int 0)))), (.expr (.app (.var 6 false) (.ite (.bo .And [(.var 4 false), (.cmp .Eq (.call f__law_dip [(.var 0 false), (.cst (.int 4))] 0) (.cst (.int 0)))]) (.cst .none) (.ite (.var 8 false) (.cst (.int 0)) (.call f__law_dip [(.var 0 false), (.bin .Add (.var 3 false) (.cst (.int 1)))] 0)))))]),
    (.ret (.lst false [(.var 5 false), (.var 6 true)]))]
/-- _law_pick(_law_well_here, _law_menu) -/
def n__law_pick : List Str := ["_law_well_here", "_law_menu"]
def m__law_pick (f__law_dip : Nat) : List MS := [
    (.ret (.idx (.var 1 false) (.call f__law_dip [(.var 0 false), (.bi "len" [(.var 1 false)])] 0)))]
/-- _law_text(_law_sketch_here) -/
def n__law_text : List Str := ["_law_sketch_here", "_law_each"]
def m__law_text : List MS := [
    (.ret (.bin .Add (.bin .Add (.bin .Add (.cst (.str "can ")) (.bi "str" [(.idx (.var 0 false) (.cst (.int 0)))])) (.cst (.str "\nitems "))) (.bm (.cst (.str " ")) "str" "join" [(.comp false (.ite (.cmp .Is (.var 1 false) (.cst .none)) (.cst (.str "tap")) (.bi "str" [(.var 1 false)])) (.nm 1) (.it (.idx (.var 0 false) (.cst (.int 1)))) [] [("_law_each", 1)])])))]
/-- _law_up_to(_law_sketch_here, _law_spot) -/
def n__law_up_to : List Str := ["_law_sketch_here", "_law_spot", "_law_soil", "_law_each"]
def m__law_up_to : List MS := [
    (.asg 2 (.comp false (.bo .Or [(.var 3 false), (.cst (.int 0))]) (.nm 3) (.it (.idx (.var 0 false) (.cst (.int 1)))) [] [("_law_each", 3)])),
    (.ret (.bin .Add (.bin .Mult (.bin .FloorDiv (.var 1 false) (.bi "len" [(.var 2 false)])) (.bi "sum" [(.var 2 false)])) (.bi "sum" [(.slice (.var 2 false) none (some (.bin .Mod (.bi "int" [(.var 1 false)]) (.bi "len" [(.var 2 false)]))))])))]
/-- _law_spot_of(_law_sketch_here, _law_count_here) -/
def n__law_spot_of : List Str := ["_law_sketch_here", "_law_count_here", "_law_soil", "_law_each", "_law_rounds", "_law_rest", "_law_at"]
def m__law_spot_of : List MS := [
    (.asg 2 (.comp false (.bo .Or [(.var 3 false), (.cst (.int 0))]) (.nm 3) (.it (.idx (.var 0 false) (.cst (.int 1)))) [] [("_law_each", 3)])),
    (.par [4, 5] [(.bin .FloorDiv (.bin .Sub (.var 1 false) (.cst (.int 1))) (.bi "sum" [(.var 2 false)])), (.bin .Mod (.bi "int" [(.bin .Sub (.var 1 false) (.cst (.int 1)))]) (.bi "sum" [(.var 2 false)]))]),
    (.asg 6 (.cst (.int 0))),
    (.while (.cmp .GtE (.var 5 false) (.idx (.var 2 false) (.var 6 false))) [(.asg 5 (.bin .Sub (.var 5 false) (.idx (.var 2 false) (.var 6 false)))), (.asg 6 (.bin .Add (.var 6 false) (.cst (.int 1))))]),
    (.ret (.bin .Add (.bin .Add (.bin .Mult (.var 4 false) (.bi "len" [(.var 2 false)])) (.var 6 false)) (.cst (.int 1))))]
/-- _law_far_sum(_law_sketch_here, _law_count_here, _law_many) -/
def n__law_far_sum : List Str := ["_law_sketch_here", "_law_count_here", "_law_many", "_law_whole", "_law_load", "_law_breadth", "_law_each", "_law_found", "_law_k", "_law_often"]
def m__law_far_sum (f__law_spot_of : Nat) : List MS := [
    (.par [3, 4, 5] [(.bi "sum" [(.comp false (.bo .Or [(.var 6 false), (.cst (.int 0))]) (.nm 6) (.it (.idx (.var 0 false) (.cst (.int 1)))) [] [("_law_each", 6)])]), (.idx (.var 0 false) (.cst (.int 0))), (.bi "len" [(.idx (.var 0 false) (.cst (.int 1)))])]),
    (.asg 7 (.cst (.int 0))),
    (.for (.nm 8) (.rng [(.bi "min" [(.var 3 false), (.var 2 false)])]) [(.asg 9 (.bin .Add (.bin .FloorDiv (.bin .Sub (.bin .Sub (.var 2 false) (.cst (.int 1))) (.var 8 false)) (.var 3 false)) (.cst (.int 1)))), (.asg 7 (.bin .Add (.bin .Add (.var 7 false) (.bin .Mult (.var 9 false) (.call f__law_spot_of [(.var 0 false), (.bin .Add (.var 1 false) (.bin .Mult (.var 8 false) (.var 4 false)))] 0))) (.bin .Mult (.bin .Mult (.var 4 false) (.var 5 false)) (.bin .FloorDiv (.bin .Mult (.var 9 false) (.bin .Sub (.var 9 false) (.cst (.int 1)))) (.cst (.int 2))))))]),
    (.ret (.var 7 false))]
/-- _law_far_left(_law_sketch_here, _law_low, _law_many) -/
def n__law_far_left : List Str := ["_law_sketch_here", "_law_low", "_law_many", "_law_load", "_law_walks", "_law_first"]
def m__law_far_left (f__law_far_sum f__law_up_to : Nat) : List MS := [
    (.asg 3 (.idx (.var 0 false) (.cst (.int 0)))),
    (.asg 4 (.bin .FloorDiv (.bin .Sub (.bin .Add (.var 2 false) (.var 3 false)) (.cst (.int 1))) (.var 3 false))),
    (.ite (.cmp .Eq (.var 4 false) (.cst (.int 0))) [(.ret (.cst (.int 0)))] []),
    (.asg 5 (.bin .Sub (.bin .Add (.call f__law_up_to [(.var 0 false), (.var 1 false)] 0) (.var 2 false)) (.bin .Mult (.bin .Sub (.var 4 false) (.cst (.int 1))) (.var 3 false)))),
    (.ret (.bin .Mult (.cst (.int 2)) (.bin .Sub (.call f__law_far_sum [(.var 0 false), (.var 5 false), (.var 4 false)] 0) (.bin .Mult (.var 4 false) (.var 1 false)))))]
/-- _law_far_right(_law_sketch_here, _law_high, _law_many) -/
def n__law_far_right : List Str := ["_law_sketch_here", "_law_high", "_law_many", "_law_load", "_law_walks", "_law_first"]
def m__law_far_right (f__law_far_sum f__law_up_to : Nat) : List MS := [
    (.asg 3 (.idx (.var 0 false) (.cst (.int 0)))),
    (.asg 4 (.bin .FloorDiv (.bin .Sub (.bin .Add (.var 2 false) (.var 3 false)) (.cst (.int 1))) (.var 3 false))),
    (.ite (.cmp .Eq (.var 4 false) (.cst (.int 0))) [(.ret (.cst (.int 0)))] []),
    (.asg 5 (.bin .Add (.bin .Sub (.call f__law_up_to [(.var 0 false), (.bin .Sub (.var 1 false) (.cst (.int 1)))] 0) (.var 2 false)) (.cst (.int 1)))),
    (.ret (.bin .Mult (.cst (.int 2)) (.bin .Sub (.bin .Mult (.var 4 false) (.var 1 false)) (.call f__law_far_sum [(.var 0 false), (.var 5 false), (.var 4 false)] 0))))]
/-- _law_well(_law_script, _law_turn) -/
def n__law_well : List Str := ["_law_script", "_law_turn", "_law_entry", "_law_stirred", "_law_each"]
def m__law_well : List MS := [
    (.asg 2 (.ite (.cmp .Lt (.var 1 false) (.bi "len" [(.var 0 false)])) (.bi "int" [(.idx (.var 0 false) (.var 1 false))]) (.bin .Add (.bin .Mult (.cst (.int 47)) (.var 1 false)) (.cst (.int 7))))),
    (.asg 3 (.bin .Add (.cst (.int 10037)) (.bin .Mult (.cst (.int 613)) (.var 1 false)))),
    (.for (.nm 4) (.it (.slice (.var 0 false) none (some (.cst (.int 8))))) [(.asg 3 (.bin .Mod (.bi "int" [(.bin .Add (.bin .Add (.bin .Mult (.var 3 false) (.cst (.int 16807))) (.bin .Mod (.bi "int" [(.var 4 false)]) (.cst (.int 999961)))) (.var 1 false))]) (.cst (.int 2147483647))))]),
    (.asg 3 (.bin .Mod (.bi "int" [(.bin .Add (.bin .Mult (.var 3 false) (.cst (.int 16807))) (.bin .Mod (.bi "int" [(.var 2 false)]) (.cst (.int 999961))))]) (.cst (.int 2147483647)))),
    (.ret (.lst true [(.ite (.cmp .GtE (.bi "abs" [(.var 2 false)]) (.bin .Pow (.cst (.int 10)) (.cst (.int 18)))) (.bi "abs" [(.var 2 false)]) (.cst (.int 0))), (.var 3 false), (.cst (.int 0))]))]
/-- place_of(garden, number) -/
def n_place_of : List Str := ["garden", "number"]
def m_place_of (c_Garden f_Garden_beds f_check_garden f_check_number f_place_of_litre : Nat) : List MS := [
    (.expr (.call f_check_garden [(.var 0 false)] 0)),
    (.expr (.call f_check_number [(.var 1 false), (.cst (.int 1)), (.gint "MOST_PLACE" 1000000000000000000000000000000)] 0)),
    (.ret (.ite (.bi "any" [(.prop (.var 0 false) c_Garden f_Garden_beds)]) (.call f_place_of_litre [(.var 0 false), (.var 1 false)] 0) (.cst .none)))]
/-- litres(garden, places, taps) -/
def n_litres : List Str := ["garden", "places", "taps", "gone", "tap"]
def m_litres (f_check_row f_item_at f_up_to : Nat) : List MS := [
    (.expr (.call f_check_row [(.var 0 false), (.var 1 false), (.var 2 false), (.gint "MOST_PLACE" 1000000000000000000000000000000)] 0)),
    (.asg 3 (.comp false (.bo .Or [(.call f_item_at [(.var 0 false), (.var 4 false)] 0), (.cst (.int 0))]) (.nm 4) (.it (.var 2 false)) [(.cmp .LtE (.var 4 false) (.var 1 false))] [("tap", 4)])),
    (.ret (.bin .Sub (.call f_up_to [(.var 0 false), (.var 1 false)] 0) (.bi "sum" [(.var 3 false)])))]
/-- check_taps(value) -/
def n_check_taps : List Str := ["value", "before", "index", "tap"]
def m_check_taps (f_is_between : Nat) : List MS := [
    (.ite (.not (.isT (.var 0 false) "tuple")) [.never] []),
    (.asg 1 (.cst (.int 0))),
    (.for (.tp [2, 3]) (.enum (.var 0 false)) [(.ite (.bo .Or [(.cmp .Eq (.var 2 false) (.gint "MOST_TAPS" 4)), (.not (.call f_is_between [(.var 3 false), (.cst (.int 1)), (.gint "MOST_PLACE" 1000000000000000000000000000000)] 0)), (.cmp .LtE (.var 3 false) (.var 1 false))]) [.never] []), (.asg 1 (.var 3 false))])]
/-- check_row(garden, places, taps, most) -/
def n_check_row : List Str := ["garden", "places", "taps", "most"]
def m_check_row (f_check_garden f_check_number f_check_taps : Nat) : List MS := [
    (.expr (.call f_check_garden [(.var 0 false)] 0)),
    (.expr (.call f_check_number [(.var 1 false), (.cst (.int 0)), (.var 3 false)] 0)),
    (.expr (.call f_check_taps [(.var 2 false)] 0))]
/-- _law_between(_law_sketch_here, _law_low, _law_high) -/
def n__law_between : List Str := ["_law_sketch_here", "_law_low", "_law_high", "_law_found", "_law_spot"]
def m__law_between : List MS := [
    (.asg 3 (.lst false [])),
    (.for (.nm 4) (.rng [(.bin .Add (.var 1 false) (.cst (.int 1))), (.var 2 false)]) [(.asg 3 (.bin .Add (.var 3 false) (.bin .Mult (.lst false [(.var 4 false)]) (.bo .Or [(.idx (.idx (.var 0 false) (.cst (.int 1))) (.bin .Mod (.bi "int" [(.bin .Sub (.var 4 false) (.cst (.int 1)))]) (.bi "len" [(.idx (.var 0 false) (.cst (.int 1)))]))), (.cst (.int 0))]))))]),
    (.ret (.var 3 false))]
/-- text_of(can, items) -/
def n_text_of : List Str := ["can", "items", "words", "item"]
def m_text_of : List MS := [
    (.asg 2 (.bm (.cst (.str " ")) "str" "join" [(.comp false (.ite (.cmp .Is (.var 3 false) (.cst .none)) (.cst (.str "tap")) (.bi "str" [(.var 3 false)])) (.nm 3) (.it (.var 1 false)) [] [("item", 3)])])),
    (.ret (.fstr [(.cst (.str "can ")), (.fmt (.var 0 false)), (.cst (.str "\nitems ")), (.fmt (.var 2 false))]))]
/-- Garden.with_can(self, can) -/
def n_Garden_with_can : List Str := ["self", "can"]
def m_Garden_with_can (c_Garden f_Garden_init f_check_number f_text_of : Nat) : List MS := [
    (.expr (.call f_check_number [(.var 1 false), (.cst (.int 1)), (.gint "MOST_CAN" 20)] 0)),
    (.ret (.make false c_Garden f_Garden_init [(.call f_text_of [(.var 1 false), (.fld (.var 0 false) c_Garden 2)] 0)] 0))]
/-- _law_garden(_law_sketch_here) -/
def n__law_garden : List Str := ["_law_sketch_here"]
def m__law_garden (c_Garden f_Garden_init f__law_text : Nat) : List MS := [
    (.ret (.make false c_Garden f_Garden_init [(.call f__law_text [(.var 0 false)] 0)] 0))]
end Mp.g

set_option Elab.async false
set_option linter.all false
set_option maxRecDepth 100000
set_option maxHeartbeats 1000000
/-! plain laws: litres counted over a repeating row, sums by rounds, the best split of a gap -/
namespace Mp.g
/-! ### the litres up to a place, the place of a litre -/
def U (w : List Nat) (p : Nat) : Nat := p / w.length * w.sum + (w.take (p % w.length)).sum
theorem take_len (w : List Nat) : (w.take w.length).sum = w.sum := by rw [List.take_length]
theorem U_at {w : List Nat} (q a : Nat) (h0 : 0 < w.length) (h : a ≤ w.length) : U w (q * w.length + a) = q * w.sum + (w.take a).sum := by
  unfold U
  rcases Nat.lt_or_ge a w.length with h | h1
  · rw [Nat.add_comm (q * w.length) a, Nat.add_mul_div_right _ _ h0, Nat.div_eq_of_lt h, Nat.add_mul_mod_self_right, Nat.mod_eq_of_lt h, Nat.zero_add]
  · have e : a = w.length := Nat.le_antisymm h h1
    subst e
    rw [← Nat.succ_mul, Nat.mul_div_cancel _ h0, Nat.mul_mod_left, take_len, Nat.succ_mul]
    simp
theorem take_succ_sum (w : List Nat) (a : Nat) (h : a < w.length) : (w.take (a + 1)).sum = (w.take a).sum + w[a] := by
  rw [List.take_add_one, List.getElem?_eq_getElem h, List.sum_append]
  simp
theorem U_zero (w : List Nat) : U w 0 = 0 := by simp [U]
theorem U_succ {w : List Nat} (p : Nat) (h0 : 0 < w.length) : U w (p + 1) = U w p + w[p % w.length]'(Nat.mod_lt _ h0) := by
  have hm := Nat.mod_lt p h0
  have e : p = p / w.length * w.length + p % w.length := by
    rw [Nat.mul_comm]
    exact (Nat.div_add_mod p w.length).symm
  have e1 : p + 1 = p / w.length * w.length + (p % w.length + 1) := by rw [← Nat.add_assoc, ← e]
  have h1 : U w (p + 1) = p / w.length * w.sum + (w.take (p % w.length + 1)).sum := by
    conv => lhs; rw [e1]
    exact U_at _ _ h0 hm
  rw [h1, take_succ_sum w _ hm, ← Nat.add_assoc]
  rfl
theorem U_mono1 {w : List Nat} (p : Nat) (h0 : 0 < w.length) : U w p ≤ U w (p + 1) := by
  rw [U_succ p h0]
  exact Nat.le_add_right _ _
theorem U_mono {w : List Nat} (h0 : 0 < w.length) {p q : Nat} (h : p ≤ q) : U w p ≤ U w q := by
  induction h with
  | refl => exact Nat.le_refl _
  | step _ ih => exact Nat.le_trans ih (U_mono1 _ h0)
theorem U_round {w : List Nat} (h0 : 0 < w.length) (p k : Nat) : U w (p + k * w.length) = U w p + k * w.sum := by
  unfold U
  rw [Nat.add_mul_div_right _ _ h0, Nat.add_mul_mod_self_right, Nat.add_mul]
  omega
/-- p is the place of the n-th litre -/
def IsPl (w : List Nat) (n p : Nat) : Prop := 1 ≤ p ∧ U w (p - 1) < n ∧ n ≤ U w p
theorem pl_uniq {w : List Nat} (h0 : 0 < w.length) {n p q : Nat} (hp : IsPl w n p) (hq : IsPl w n q) : p = q := by
  obtain ⟨p1, p2, p3⟩ := hp
  obtain ⟨q1, q2, q3⟩ := hq
  rcases Nat.lt_trichotomy p q with h | h | h
  · have := U_mono h0 (show p ≤ q - 1 by omega)
    omega
  · exact h
  · have := U_mono h0 (show q ≤ p - 1 by omega)
    omega
def posOf : List Nat → Nat → Nat
  | [], _ => 0
  | x :: xs, r => if r < x then 1 else 1 + posOf xs (r - x)
theorem posOf_ok : ∀ (w : List Nat) (r : Nat), r < w.sum → 1 ≤ posOf w r ∧ posOf w r ≤ w.length ∧ (w.take (posOf w r - 1)).sum ≤ r ∧ r < (w.take (posOf w r)).sum
  | [], r, h => absurd h (Nat.not_lt_zero _)
  | x :: xs, r, h => by
    unfold posOf
    rw [List.sum_cons] at h
    split
    · rename_i hr
      refine ⟨Nat.le_refl _, by rw [List.length_cons]; omega, by simp, by simpa using hr⟩
    · rename_i hr
      obtain ⟨h1, h2, h3, h4⟩ := posOf_ok xs (r - x) (by omega)
      generalize posOf xs (r - x) = a at *
      obtain ⟨b, rfl⟩ : ∃ b, a = b + 1 := ⟨a - 1, by omega⟩
      refine ⟨by omega, by rw [List.length_cons]; omega, ?_, ?_⟩
      · rw [show 1 + (b + 1) - 1 = b + 1 by omega, List.take_succ_cons, List.sum_cons]
        rw [Nat.add_sub_cancel] at h3
        omega
      · rw [show 1 + (b + 1) = (b + 1) + 1 by omega, List.take_succ_cons, List.sum_cons]
        omega
/-- the place of a litre -/
def pl (w : List Nat) (n : Nat) : Nat := (n - 1) / w.sum * w.length + posOf w ((n - 1) % w.sum)
theorem sum_len {w : List Nat} (hs : 0 < w.sum) : 0 < w.length := by
  cases w with
  | nil => exact absurd hs (Nat.lt_irrefl _)
  | cons a w => rw [List.length_cons]; omega
theorem pl_of {w : List Nat} (n a : Nat) (hs : 0 < w.sum) (hn : 1 ≤ n) (a1 : 1 ≤ a) (am : a ≤ w.length) (l1 : (w.take (a - 1)).sum ≤ (n - 1) % w.sum) (l2 : (n - 1) % w.sum < (w.take a).sum) :
    IsPl w n ((n - 1) / w.sum * w.length + a) := by
  have h0 : 0 < w.length := by omega
  refine ⟨by omega, ?_, ?_⟩
  · rw [Nat.add_sub_assoc a1, U_at _ _ h0 (by omega)]
    have := Nat.div_add_mod (n - 1) w.sum
    rw [Nat.mul_comm] at this
    omega
  · rw [U_at _ _ h0 am]
    have := Nat.div_add_mod (n - 1) w.sum
    rw [Nat.mul_comm] at this
    omega
theorem pl_ok {w : List Nat} {n : Nat} (hs : 0 < w.sum) (hn : 1 ≤ n) : IsPl w n (pl w n) := by
  obtain ⟨h1, h2, h3, h4⟩ := posOf_ok w ((n - 1) % w.sum) (Nat.mod_lt _ hs)
  exact pl_of n _ hs hn h1 h2 h3 h4
theorem pl_add {w : List Nat} {n : Nat} (hs : 0 < w.sum) (hn : 1 ≤ n) (k : Nat) : pl w (n + k * w.sum) = pl w n + k * w.length := by
  unfold pl
  rw [show n + k * w.sum - 1 = (n - 1) + k * w.sum by omega, Nat.add_mul_div_right _ _ hs, Nat.add_mul_mod_self_right, Nat.add_mul]
  omega
theorem pl_mono {w : List Nat} {n m : Nat} (hs : 0 < w.sum) (hn : 1 ≤ n) (h : n ≤ m) : pl w n ≤ pl w m := by
  obtain ⟨_, p2, p3⟩ := pl_ok hs hn
  obtain ⟨_, q2, q3⟩ := pl_ok hs (Nat.le_trans hn h)
  rcases Nat.lt_or_ge (pl w m) (pl w n) with k | k
  · have := U_mono (sum_len hs) (show pl w m ≤ pl w n - 1 by omega)
    omega
  · exact k
theorem pl_le {w : List Nat} {n : Nat} (hs : 0 < w.sum) (hn : 1 ≤ n) : pl w n ≤ n * w.length := by
  obtain ⟨h1, h2, h3, h4⟩ := posOf_ok w ((n - 1) % w.sum) (Nat.mod_lt _ hs)
  unfold pl
  have := Nat.mul_le_mul_right w.length (Nat.div_le_self (n - 1) w.sum)
  have e : n * w.length = (n - 1) * w.length + w.length := by
    rw [← Nat.succ_mul]
    congr 1
    omega
  omega
/-- a litre between two places -/
theorem pl_gt {w : List Nat} {n p : Nat} (hs : 0 < w.sum) (h : U w p < n) : p < pl w n := by
  obtain ⟨q1, q2, q3⟩ := pl_ok hs (show 1 ≤ n by omega)
  rcases Nat.lt_or_ge p (pl w n) with k | k
  · exact k
  · have := U_mono (sum_len hs) k
    omega
theorem pl_lt {w : List Nat} {n p : Nat} (hs : 0 < w.sum) (h1 : 1 ≤ n) (h : n ≤ U w p) : pl w n ≤ p := by
  obtain ⟨q1, q2, q3⟩ := pl_ok hs h1
  rcases Nat.lt_or_ge p (pl w n) with k | k
  · have := U_mono (sum_len hs) (show p ≤ pl w n - 1 by omega)
    omega
  · exact k

/-! ### sums -/
def sm (f : Nat → Int) : Nat → Int
  | 0 => 0
  | n + 1 => sm f n + f n
theorem sm_congr {f g : Nat → Int} : ∀ {n : Nat}, (∀ i, i < n → f i = g i) → sm f n = sm g n
  | 0, _ => rfl
  | n + 1, h => by
    rw [sm, sm, sm_congr fun i hi => h i (by omega), h n (by omega)]
theorem sm_add (f : Nat → Int) (a : Nat) : ∀ b, sm f (a + b) = sm f a + sm (fun i => f (a + i)) b
  | 0 => by simp [sm]
  | b + 1 => by
    rw [← Nat.add_assoc, sm, sm, sm_add f a b, Int.add_assoc]
theorem sm_zero : ∀ n, sm (fun _ => 0) n = 0
  | 0 => rfl
  | n + 1 => by rw [sm, sm_zero n]; rfl
theorem sm_plus (f g : Nat → Int) : ∀ n, sm (fun i => f i + g i) n = sm f n + sm g n
  | 0 => rfl
  | n + 1 => by rw [sm, sm, sm, sm_plus f g n]; omega
theorem sm_sub (f g : Nat → Int) : ∀ n, sm (fun i => f i - g i) n = sm f n - sm g n
  | 0 => rfl
  | n + 1 => by rw [sm, sm, sm, sm_sub f g n]; omega
theorem sm_mul (d : Int) (f : Nat → Int) : ∀ n, sm (fun i => d * f i) n = d * sm f n
  | 0 => by simp [sm]
  | n + 1 => by rw [sm, sm, sm_mul d f n, Int.mul_add]
theorem sm_const (d : Int) : ∀ n : Nat, sm (fun _ => d) n = n * d
  | 0 => by simp [sm]
  | n + 1 => by rw [sm, sm_const d n, Int.natCast_succ, Int.add_mul, Int.one_mul]
theorem sm_succ' (f : Nat → Int) (n : Nat) : sm f (n + 1) = f 0 + sm (fun i => f (i + 1)) n := by
  rw [Nat.add_comm n 1, sm_add]
  simp only [sm, Int.zero_add]
  rw [sm_congr (g := fun i => f (i + 1)) fun i _ => by rw [Nat.add_comm]]
theorem sm_rev (f : Nat → Int) : ∀ n, sm f n = sm (fun i => f (n - 1 - i)) n
  | 0 => rfl
  | n + 1 => by
    rw [sm_succ' (fun i => f (n + 1 - 1 - i)), sm, sm_rev f n, Int.add_comm]
    congr 1
    exact sm_congr fun i hi => by congr 1; omega
theorem sm_trunc (f : Nat → Int) {a b : Nat} (h : a ≤ b) (z : ∀ i, a ≤ i → i < b → f i = 0) : sm f b = sm f a := by
  obtain ⟨k, rfl⟩ : ∃ k, b = a + k := ⟨b - a, by omega⟩
  rw [sm_add, sm_congr (f := fun i => f (a + i)) (g := fun _ => 0) (fun i hi => z (a + i) (Nat.le_add_right a i) (Nat.add_lt_add_left hi a)), sm_zero, Int.add_zero]
theorem sm_le {f g : Nat → Int} : ∀ {n : Nat}, (∀ i, i < n → f i ≤ g i) → sm f n ≤ sm g n
  | 0, _ => Int.le_refl _
  | n + 1, h => by
    rw [sm, sm]
    exact Int.add_le_add (sm_le fun i hi => h i (by omega)) (h n (by omega))
theorem sm_nonneg {f : Nat → Int} {n : Nat} (h : ∀ i, i < n → 0 ≤ f i) : 0 ≤ sm f n := by
  have := sm_le (f := fun _ => 0) (g := f) h
  rwa [sm_zero] at this

/-- how often a rest comes below n -/
def oft (t n a : Nat) : Nat := (n + t - 1 - a) / t
def tri (k : Nat) : Nat := k * (k - 1) / 2
theorem tri_succ (k : Nat) : tri (k + 1) = tri k + k := by
  unfold tri
  cases k with
  | zero => rfl
  | succ k =>
    rw [Nat.add_sub_cancel, Nat.add_sub_cancel, show (k + 1 + 1) * (k + 1) = (k + 1) * k + (k + 1) * 2 by rw [← Nat.mul_add, Nat.mul_comm], Nat.add_mul_div_right _ _ (by decide)]
theorem oft_lt {t n a : Nat} (ht : 0 < t) (ha : a < n) : oft t n a = (n - a - 1) / t + 1 := by
  unfold oft
  rw [show n + t - 1 - a = (n - a - 1) + t by omega, Nat.add_div_right _ ht]
theorem oft_ge {t n a : Nat} (ha : n ≤ a) (ht : a < t) : oft t n a = 0 := by
  unfold oft
  exact Nat.div_eq_of_lt (by omega)
theorem oft_add {t n a : Nat} (ha : a < t) : oft t (t + n) a = oft t n a + 1 := by
  unfold oft
  rw [show t + n + t - 1 - a = (n + t - 1 - a) + t by omega, Nat.add_div_right _ (by omega)]
theorem oft_sum {t : Nat} (ht : 0 < t) (n : Nat) : sm (fun a => (oft t n a : Nat)) t = n := by
  induction n using Nat.strongRecOn with
  | _ n ih =>
    rcases Nat.lt_or_ge t n with h | h
    · obtain ⟨m, rfl⟩ : ∃ m, n = t + m := ⟨n - t, by omega⟩
      rw [sm_congr (g := fun a => (oft t m a : Nat) + 1) fun a ha => by rw [oft_add ha]; rfl, sm_plus, ih m (by omega), sm_const]
      omega
    · rw [sm_trunc _ h fun i h1 h2 => by rw [oft_ge h1 h2]; rfl, sm_congr (g := fun _ => 1) fun a ha => ?_, sm_const]
      · omega
      · rw [oft_lt ht ha, Nat.div_eq_of_lt (by omega)]
        rfl
/-- a sum by rounds -/
theorem blk {t : Nat} (ht : 0 < t) {f : Nat → Int} {d : Int} (hf : ∀ i, f (i + t) = f i + d) (n : Nat) : sm f n = sm (fun a => (oft t n a : Nat) * f a + d * (tri (oft t n a) : Nat)) t := by
  induction n using Nat.strongRecOn with
  | _ n ih =>
    rcases Nat.lt_or_ge t n with h | h
    · obtain ⟨m, rfl⟩ : ∃ m, n = t + m := ⟨n - t, by omega⟩
      rw [sm_congr (f := fun a => ((oft t (t + m) a : Nat) : Int) * f a + d * (tri (oft t (t + m) a) : Nat)) (g := fun a => (((oft t m a : Nat) : Int) * f a + d * (tri (oft t m a) : Nat)) + (f a + d * (oft t m a : Nat))) fun a ha => by
        rw [oft_add ha, tri_succ, Int.natCast_succ, Int.natCast_add, Int.add_mul, Int.mul_add]
        omega]
      rw [sm_plus (fun a => ((oft t m a : Nat) : Int) * f a + d * (tri (oft t m a) : Nat)), sm_plus f, sm_mul, oft_sum ht, ← ih m (by omega), sm_add, sm_congr (f := fun i => f (t + i)) (g := fun i => f i + d) fun i _ => by rw [Nat.add_comm]; exact hf i, sm_plus, sm_const, Int.mul_comm]
      omega
    · rw [sm_trunc _ h fun i h1 h2 => by rw [oft_ge h1 h2]; simp [tri]]
      refine sm_congr fun a ha => ?_
      rw [oft_lt ht ha, Nat.div_eq_of_lt (by omega)]
      simp [tri]
/-- as the program adds it up -/
theorem blk_min {t : Nat} (ht : 0 < t) {f : Nat → Int} {d : Int} (hf : ∀ i, f (i + t) = f i + d) (n : Nat) :
    sm f n = sm (fun a => ((n - a - 1) / t + 1 : Nat) * f a + d * (tri ((n - a - 1) / t + 1) : Nat)) (min t n) := by
  rw [blk ht hf]
  rcases Nat.le_total t n with h | h
  · rw [Nat.min_eq_left h]
    exact sm_congr fun a ha => by rw [oft_lt ht (by omega)]
  · rw [Nat.min_eq_right h, sm_trunc _ h fun i h1 h2 => by rw [oft_ge h1 h2]; simp [tri]]
    exact sm_congr fun a ha => by rw [oft_lt ht ha]

/-! ### walks a can apart -/
def cdv (a c : Nat) : Nat := (a + c - 1) / c
/-- p of A, A - c, A - 2c, .. -/
def walks (p : Nat → Int) (c A : Nat) : Int := sm (fun k => p (A - k * c)) (cdv A c)
theorem cdv_zero {c : Nat} (hc : 0 < c) : cdv 0 c = 0 := Nat.div_eq_of_lt (by omega)
theorem cdv_pos {c A : Nat} (hc : 0 < c) (hA : 0 < A) : cdv A c = cdv (A - c) c + 1 := by
  unfold cdv
  rcases Nat.lt_or_ge A c with h | h
  · rw [show A - c + c - 1 = c - 1 by omega, Nat.div_eq_of_lt (show c - 1 < c by omega), show A + c - 1 = (A - 1) + c by omega, Nat.add_div_right _ hc, Nat.div_eq_of_lt (by omega)]
  · rw [show A + c - 1 = (A - c + c - 1) + c by omega, Nat.add_div_right _ hc]
theorem cdv_lt {c A k : Nat} (hc : 0 < c) (hk : k < cdv A c) : k * c < A := by
  unfold cdv at hk
  have := (Nat.le_div_iff_mul_le hc).mp (show k + 1 ≤ (A + c - 1) / c from hk)
  rw [Nat.add_mul] at this
  omega
theorem cdv_ge {c A : Nat} (hc : 0 < c) : A ≤ cdv A c * c := by
  unfold cdv
  have := Nat.div_add_mod (A + c - 1) c
  have h2 := Nat.mod_lt (A + c - 1) hc
  rw [Nat.mul_comm] at this
  omega
theorem walks_zero {p : Nat → Int} {c : Nat} (hc : 0 < c) : walks p c 0 = 0 := by
  unfold walks
  rw [cdv_zero hc]
  rfl
theorem walks_pos {p : Nat → Int} {c A : Nat} (hc : 0 < c) (hA : 0 < A) : walks p c A = p A + walks p c (A - c) := by
  unfold walks
  rw [cdv_pos hc hA, sm_succ']
  congr 1
  · simp
  · refine sm_congr fun i _ => ?_
    congr 1
    rw [Nat.add_mul]
    omega
theorem walks_congr {p q : Nat → Int} {c A : Nat} (hc : 0 < c) (h : ∀ k, 1 ≤ k → k ≤ A → p k = q k) : walks p c A = walks q c A :=
  sm_congr fun k hk => by
    have := cdv_lt hc hk
    exact h _ (by omega) (by omega)
/-! ### the best split -/
section
variable (p q : Nat → Int) (c W : Nat)
def cost (x : Nat) : Int := walks p c x + walks q c (W - x)
def dif (x : Nat) : Int := p (x + c) - q (W - x)
variable {p q c W}
theorem cost_step (hc : 0 < c) {x : Nat} (h : x + c ≤ W) : cost p q c W (x + c) - cost p q c W x = dif p q c W x := by
  unfold cost dif
  rw [walks_pos hc (show 0 < x + c by omega), Nat.add_sub_cancel, walks_pos (A := W - x) hc (by omega), show W - x - c = W - (x + c) by omega]
  omega
theorem cost_down (hc : 0 < c) (r : Nat) : ∀ (k low : Nat), r + (low + k) * c ≤ W → (∀ m, low ≤ m → m < low + k → 0 ≤ dif p q c W (r + m * c)) → cost p q c W (r + low * c) ≤ cost p q c W (r + (low + k) * c)
  | 0, low, _, _ => Int.le_refl _
  | k + 1, low, h, d => by
    have e : r + (low + (k + 1)) * c = (r + (low + k) * c) + c := by rw [← Nat.add_assoc, Nat.add_mul (low + k), Nat.one_mul, Nat.add_assoc]
    rw [e] at h
    have h1 := cost_down hc r k low (by omega) fun m a b => d m a (by omega)
    have h2 := cost_step (p := p) (q := q) hc (x := r + (low + k) * c) h
    have h3 := d (low + k) (by omega) (by omega)
    rw [e]
    omega
theorem cost_up (hc : 0 < c) (r : Nat) : ∀ (k low : Nat), r + (low + k) * c ≤ W → (∀ m, low ≤ m → m < low + k → dif p q c W (r + m * c) < 0) → cost p q c W (r + (low + k) * c) ≤ cost p q c W (r + low * c)
  | 0, low, _, _ => Int.le_refl _
  | k + 1, low, h, d => by
    have e : r + (low + (k + 1)) * c = (r + (low + k) * c) + c := by rw [← Nat.add_assoc, Nat.add_mul (low + k), Nat.one_mul, Nat.add_assoc]
    rw [e] at h
    have h1 := cost_up hc r k low (by omega) fun m a b => d m a (by omega)
    have h2 := cost_step (p := p) (q := q) hc (x := r + (low + k) * c) h
    have h3 := d (low + k) (by omega) (by omega)
    rw [e]
    omega
theorem best_rest (hc : 0 < c) {r low : Nat} (hl : r + low * c ≤ W) (h1 : ∀ m, m < low → dif p q c W (r + m * c) < 0) (h2 : ∀ m, low ≤ m → r + (m + 1) * c ≤ W → 0 ≤ dif p q c W (r + m * c)) {m : Nat} (hm : r + m * c ≤ W) :
    cost p q c W (r + low * c) ≤ cost p q c W (r + m * c) := by
  rcases Nat.le_total low m with h | h
  · obtain ⟨k, rfl⟩ : ∃ k, m = low + k := ⟨m - low, by omega⟩
    refine cost_down hc r k low hm fun i a b => h2 i a (Nat.le_trans (Nat.add_le_add_left (Nat.mul_le_mul_right c (show i + 1 ≤ low + k by omega)) r) hm)
  · obtain ⟨k, rfl⟩ : ∃ k, low = m + k := ⟨low - m, by omega⟩
    exact cost_up hc r k m hl fun i a b => h1 i b
end
end Mp.g

set_option Elab.async false
set_option linter.all false
set_option maxRecDepth 100000
set_option maxHeartbeats 1000000
namespace Mp.g
open PySem PySem.Spec L2 Mp
variable {Γ : Specs}
def sp_is_integer : Spec := fun ds C P _ => ∃ i : Int, ds = [.int i] ∧ P (.bl true) C
theorem p_is_integer (ds C Q PX) (h : sp_is_integer ds C Q PX) : wpSs Γ m_is_integer (ro0 n_is_integer ds) C (fnEn Q PX) := by
  obtain ⟨i, rfl, h⟩ := h
  exact ⟨true, by decide +kernel, false, by decide +kernel, h⟩
def sp_is_between : Spec := fun ds C P _ => ∃ v a b : Int, ds = [.int v, .int a, .int b] ∧ P (.bl (decide (a ≤ v) && decide (v ≤ b))) C
theorem p_is_between {f_is_integer : Nat} (g1 : Γ f_is_integer = sp_is_integer) (ds C Q PX) (h : sp_is_between ds C Q PX) : wpSs Γ (m_is_between f_is_integer) (ro0 n_is_between ds) C (fnEn Q PX) := by
  obtain ⟨v, a, b, rfl, h⟩ := h
  show Γ f_is_integer [.int v] C _ _
  rw [g1]
  refine ⟨v, rfl, ?_⟩
  show wIf (decide (a ≤ v)) (Q (.bl (decide (v ≤ b))) C) (Q (.bl false) C)
  cases e : decide (a ≤ v) with
  | true => rw [e] at h; exact h
  | false => rw [e] at h; exact h
def sp_check_number : Spec := fun ds C P _ => ∃ v a b : Int, ds = [.int v, .int a, .int b] ∧ a ≤ v ∧ v ≤ b ∧ P .non C
theorem p_check_number {f_is_between : Nat} (g1 : Γ f_is_between = sp_is_between) (ds C Q PX) (h : sp_check_number ds C Q PX) : wpSs Γ (m_check_number f_is_between) (ro0 n_check_number ds) C (fnEn Q PX) := by
  obtain ⟨v, a, b, rfl, h1, h2, h⟩ := h
  show Γ f_is_between [.int v, .int a, .int b] C _ _
  rw [g1]
  refine ⟨v, a, b, rfl, ?_⟩
  rw [decide_eq_true h1, decide_eq_true h2]
  exact h
def sp_check_garden (c : Nat) : Spec := fun ds C P _ => ∃ fs, ds = [.ins c fs] ∧ P .non C
theorem p_check_garden {c_Garden : Nat} (ds C Q PX) (h : sp_check_garden c_Garden ds C Q PX) : wpSs Γ (m_check_garden c_Garden) (ro0 n_check_garden ds) C (fnEn Q PX) := by
  obtain ⟨fs, rfl, h⟩ := h
  exact ⟨rfl, h⟩
def sp_Garden_beds (c : Nat) : Spec := fun ds C P _ => ∃ t l p, ds = [.ins c [t, l, p]] ∧ P p C
theorem p_Garden_beds {c_Garden : Nat} (ds C Q PX) (h : sp_Garden_beds c_Garden ds C Q PX) : wpSs Γ (m_Garden_beds c_Garden) (ro0 n_Garden_beds ds) C (fnEn Q PX) := by
  obtain ⟨t, l, p, rfl, h⟩ := h
  exact ⟨rfl, h⟩
/-! the well -/
abbrev wellD (a s t : Int) : CO := .lst [.int a, .int s, .int t]
def sp_dip : Spec := fun ds C P _ => ∃ w a s t size, ds = [.ref w, .int size] ∧ 0 < size ∧ size < 2 ^ 200 ∧ C w = some (wellD a s t) ∧ ∀ r a' s' t', 0 ≤ r → r < size → P (.int r) (cset C w (wellD a' s' t'))
theorem vwell {C : Cs} {w : Addr} {a s t : Int} (h : C w = some (wellD a s t)) : view C (.ref w) = .lst [.int a, .int s, .int t] := view_refL h
theorem p__law_dip (ds C Q PX) (h : sp_dip ds C Q PX) : wpSs Γ m__law_dip (ro0 n__law_dip ds) C (fnEn Q PX) := by
  obtain ⟨w, a, s, t, size, rfl, h0, h1, hw, h⟩ := h
  rw [show ro0 n__law_dip [.ref w, .int size] = [some (.ref w), some (.int size), none] from rfl]
  unfold m__law_dip
  have w1 : ∀ a s t, (cset C w (wellD a s t)) w = some (wellD a s t) := fun a s t => cset_same
  have fin : ∀ x a' s' t', Q (.int (fm x size)) (cset C w (wellD a' s' t')) := fun x a' s' t' => h _ _ _ _ (by
    rw [fm_pos (by omega)]
    exact Int.emod_nonneg _ (by omega)) (by
    rw [fm_pos (by omega)]
    exact Int.emod_lt_of_pos _ h0)
  simp only [wpSs, wpS, wpX, wpL, wpBo, wpO, wpTs, wpJ, wpI, plainX, boolX, noT, varW, List.getElem?_cons_zero, List.getElem?_cons_succ, List.set_cons_zero, List.set_cons_succ, cD, fnEn, view_int, view_bl, view_str, view_non, view_lst, view_tupl, view_ins, view_dct, view_scr, add_int, sub_int, mul_int, mod_int, div_int, idx_lst, idx_tup, wIf_t, wIf_f, lt_int, le_int, gt_int, ge_int, eq_int, ne_int, List.map_cons, List.map_nil, vwell hw]
  refine ⟨.int t, rfl, ?_⟩
  simp only [wpSs, wpS, wpX, wpL, wpBo, wpO, wpTs, wpJ, wpI, plainX, boolX, noT, varW, List.getElem?_cons_zero, List.getElem?_cons_succ, List.set_cons_zero, List.set_cons_succ, cD, fnEn, view_int, view_bl, view_str, view_non, view_lst, view_tupl, view_ins, view_dct, view_scr, add_int, sub_int, mul_int, mod_int, div_int, idx_lst, idx_tup, wIf_t, wIf_f, lt_int, le_int, gt_int, ge_int, eq_int, ne_int, List.map_cons, List.map_nil]
  refine setID_lst hw (j := 2) rfl ?_
  simp only [wpSs, wpS, wpX, wpL, wpBo, wpO, wpTs, wpJ, wpI, plainX, boolX, noT, varW, List.getElem?_cons_zero, List.getElem?_cons_succ, List.set_cons_zero, List.set_cons_succ, cD, fnEn, view_int, view_bl, view_str, view_non, view_lst, view_tupl, view_ins, view_dct, view_scr, add_int, sub_int, mul_int, mod_int, div_int, idx_lst, idx_tup, wIf_t, wIf_f, lt_int, le_int, gt_int, ge_int, eq_int, ne_int, List.map_cons, List.map_nil, vwell (w1 a s (t + 1)), List.set]
  refine ⟨.int a, rfl, ?_⟩
  simp only [wpSs, wpS, wpX, wpL, wpBo, wpO, wpTs, wpJ, wpI, plainX, boolX, noT, varW, List.getElem?_cons_zero, List.getElem?_cons_succ, List.set_cons_zero, List.set_cons_succ, cD, fnEn, view_int, view_bl, view_str, view_non, view_lst, view_tupl, view_ins, view_dct, view_scr, add_int, sub_int, mul_int, mod_int, div_int, idx_lst, idx_tup, wIf_t, wIf_f, lt_int, le_int, gt_int, ge_int, eq_int, ne_int, List.map_cons, List.map_nil]
  cases e : decide (0 < a) with
  | true =>
    simp only [wpSs, wpS, wpX, wpL, wpBo, wpO, wpTs, wpJ, wpI, plainX, boolX, noT, varW, List.getElem?_cons_zero, List.getElem?_cons_succ, List.set_cons_zero, List.set_cons_succ, cD, fnEn, view_int, view_bl, view_str, view_non, view_lst, view_tupl, view_ins, view_dct, view_scr, add_int, sub_int, mul_int, mod_int, div_int, idx_lst, idx_tup, wIf_t, wIf_f, lt_int, le_int, gt_int, ge_int, eq_int, ne_int, List.map_cons, List.map_nil]
    refine ⟨.int a, rfl, bi_int ?_⟩
    simp only [wpSs, wpS, wpX, wpL, wpBo, wpO, wpTs, wpJ, wpI, plainX, boolX, noT, varW, List.getElem?_cons_zero, List.getElem?_cons_succ, List.set_cons_zero, List.set_cons_succ, cD, fnEn, view_int, view_bl, view_str, view_non, view_lst, view_tupl, view_ins, view_dct, view_scr, add_int, sub_int, mul_int, mod_int, div_int, idx_lst, idx_tup, wIf_t, wIf_f, lt_int, le_int, gt_int, ge_int, eq_int, ne_int, List.map_cons, List.map_nil]
    refine ⟨by omega, .int a, rfl, bi_int ?_⟩
    simp only [wpSs, wpS, wpX, wpL, wpBo, wpO, wpTs, wpJ, wpI, plainX, boolX, noT, varW, List.getElem?_cons_zero, List.getElem?_cons_succ, List.set_cons_zero, List.set_cons_succ, cD, fnEn, view_int, view_bl, view_str, view_non, view_lst, view_tupl, view_ins, view_dct, view_scr, add_int, sub_int, mul_int, mod_int, div_int, idx_lst, idx_tup, wIf_t, wIf_f, lt_int, le_int, gt_int, ge_int, eq_int, ne_int, List.map_cons, List.map_nil]
    refine ⟨.inr ⟨h0, Int.lt_trans h1 (by decide)⟩, setID_lst (w1 _ _ _) (j := 0) rfl ?_⟩
    rw [cset_cset]
    exact fin _ _ _ _
  | false =>
    simp only [wpSs, wpS, wpX, wpL, wpBo, wpO, wpTs, wpJ, wpI, plainX, boolX, noT, varW, List.getElem?_cons_zero, List.getElem?_cons_succ, List.set_cons_zero, List.set_cons_succ, cD, fnEn, view_int, view_bl, view_str, view_non, view_lst, view_tupl, view_ins, view_dct, view_scr, add_int, sub_int, mul_int, mod_int, div_int, idx_lst, idx_tup, wIf_t, wIf_f, lt_int, le_int, gt_int, ge_int, eq_int, ne_int, List.map_cons, List.map_nil]
    refine ⟨.int s, rfl, ?_⟩
    simp only [wpSs, wpS, wpX, wpL, wpBo, wpO, wpTs, wpJ, wpI, plainX, boolX, noT, varW, List.getElem?_cons_zero, List.getElem?_cons_succ, List.set_cons_zero, List.set_cons_succ, cD, fnEn, view_int, view_bl, view_str, view_non, view_lst, view_tupl, view_ins, view_dct, view_scr, add_int, sub_int, mul_int, mod_int, div_int, idx_lst, idx_tup, wIf_t, wIf_f, lt_int, le_int, gt_int, ge_int, eq_int, ne_int, List.map_cons, List.map_nil]
    refine ⟨mulok_r ⟨by omega, by omega⟩, .int (t + 1), rfl, ?_⟩
    simp only [wpSs, wpS, wpX, wpL, wpBo, wpO, wpTs, wpJ, wpI, plainX, boolX, noT, varW, List.getElem?_cons_zero, List.getElem?_cons_succ, List.set_cons_zero, List.set_cons_succ, cD, fnEn, view_int, view_bl, view_str, view_non, view_lst, view_tupl, view_ins, view_dct, view_scr, add_int, sub_int, mul_int, mod_int, div_int, idx_lst, idx_tup, wIf_t, wIf_f, lt_int, le_int, gt_int, ge_int, eq_int, ne_int, List.map_cons, List.map_nil]
    refine ⟨mulok_l ⟨by omega, by omega⟩, bi_int ?_⟩
    simp only [wpSs, wpS, wpX, wpL, wpBo, wpO, wpTs, wpJ, wpI, plainX, boolX, noT, varW, List.getElem?_cons_zero, List.getElem?_cons_succ, List.set_cons_zero, List.set_cons_succ, cD, fnEn, view_int, view_bl, view_str, view_non, view_lst, view_tupl, view_ins, view_dct, view_scr, add_int, sub_int, mul_int, mod_int, div_int, idx_lst, idx_tup, wIf_t, wIf_f, lt_int, le_int, gt_int, ge_int, eq_int, ne_int, List.map_cons, List.map_nil]
    refine ⟨by omega, setID_lst (w1 _ _ _) (j := 1) rfl ?_⟩
    rw [cset_cset]
    simp only [List.set, vwell (w1 _ _ _), wpSs, wpS, wpX, wpL, wpBo, wpO, wpTs, wpJ, wpI, plainX, boolX, noT, varW, List.getElem?_cons_zero, List.getElem?_cons_succ, List.set_cons_zero, List.set_cons_succ, cD, fnEn, view_int, view_bl, view_str, view_non, view_lst, view_tupl, view_ins, view_dct, view_scr, add_int, sub_int, mul_int, mod_int, div_int, idx_lst, idx_tup, wIf_t, wIf_f, lt_int, le_int, gt_int, ge_int, eq_int, ne_int, List.map_cons, List.map_nil]
    refine ⟨_, rfl, ?_⟩
    simp only [wpSs, wpS, wpX, wpL, wpBo, wpO, wpTs, wpJ, wpI, plainX, boolX, noT, varW, List.getElem?_cons_zero, List.getElem?_cons_succ, List.set_cons_zero, List.set_cons_succ, cD, fnEn, view_int, view_bl, view_str, view_non, view_lst, view_tupl, view_ins, view_dct, view_scr, add_int, sub_int, mul_int, mod_int, div_int, idx_lst, idx_tup, wIf_t, wIf_f, lt_int, le_int, gt_int, ge_int, eq_int, ne_int, List.map_cons, List.map_nil]
    refine ⟨.inr ⟨by omega, Int.lt_trans (show (512 : Int) < 2 ^ 200 by decide) (by decide)⟩, bi_int ?_⟩
    simp only [wpSs, wpS, wpX, wpL, wpBo, wpO, wpTs, wpJ, wpI, plainX, boolX, noT, varW, List.getElem?_cons_zero, List.getElem?_cons_succ, List.set_cons_zero, List.set_cons_succ, cD, fnEn, view_int, view_bl, view_str, view_non, view_lst, view_tupl, view_ins, view_dct, view_scr, add_int, sub_int, mul_int, mod_int, div_int, idx_lst, idx_tup, wIf_t, wIf_f, lt_int, le_int, gt_int, ge_int, eq_int, ne_int, List.map_cons, List.map_nil]
    exact ⟨by omega, fin _ _ _ _⟩
/-! sketches -/
def itD : Option Nat → D
  | none => .non
  | some n => .int n
def okIts (m : Nat) (its : List (Option Nat)) : Prop := 1 ≤ its.length ∧ its.length ≤ 12 ∧ ∀ o ∈ its, ∀ n, o = some n → n ≤ m
/-- a fresh well -/
def sp_well : Spec := fun ds C P _ => ∃ ns turn, ds = [.scr ns, .int turn] ∧ 0 ≤ turn ∧ ∀ a, C a = none → ∀ e s, P (.ref a) (cset C a (wellD e s 0))
theorem p__law_well (ds C Q PX) (h : sp_well ds C Q PX) : wpSs Γ m__law_well (ro0 n__law_well ds) C (fnEn Q PX) := by
  obtain ⟨ns, turn, rfl, h0, h⟩ := h
  rw [show ro0 n__law_well [.scr ns, .int turn] = [some (.scr ns), some (.int turn), none, none, none] from rfl]
  unfold m__law_well
  simp only [wpSs, wpS, wpX, wpL, wpBo, wpO, wpTs, wpJ, wpI, plainX, boolX, noT, varW, List.getElem?_cons_zero, List.getElem?_cons_succ, List.set_cons_zero, List.set_cons_succ, cD, fnEn, view_int, view_bl, view_str, view_non, view_lst, view_tupl, view_ins, view_dct, view_scr, add_int, sub_int, mul_int, mod_int, div_int, idx_lst, idx_tup, wIf_t, wIf_f, lt_int, le_int, gt_int, ge_int, eq_int, ne_int, List.map_cons, List.map_nil]
  have key : ∀ (x : Int), (MulOk 613 turn ∧ sliD (D.scr ns) none (some 8) fun z_1 => itsD z_1 fun xs => forW (MT.nm 4) (wpSs Γ [(.asg 3 (.bin .Mod (.bi "int" [(.bin .Add (.bin .Add (.bin .Mult (.var 3 false) (.cst (.int 16807))) (.bin .Mod (.bi "int" [(.var 4 false)]) (.cst (.int 999961)))) (.var 1 false))]) (.cst (.int 2147483647))))]) xs [some (.scr ns), some (.int turn), some (.int x), some (.int (10037 + 613 * turn)), none] C
      { (fnEn Q PX) with nx := fun ρ C => wpSs Γ [(.asg 3 (.bin .Mod (.bi "int" [(.bin .Add (.bin .Mult (.var 3 false) (.cst (.int 16807))) (.bin .Mod (.bi "int" [(.var 2 false)]) (.cst (.int 999961))))]) (.cst (.int 2147483647)))), (.ret (.lst true [(.ite (.cmp .GtE (.bi "abs" [(.var 2 false)]) (.bin .Pow (.cst (.int 10)) (.cst (.int 18)))) (.bi "abs" [(.var 2 false)]) (.cst (.int 0))), (.var 3 false), (.cst (.int 0))]))] ρ C (fnEn Q PX) }) := by
    intro x
    refine ⟨mulok_l ⟨by omega, by omega⟩, ?_⟩
    refine for_inv0 (fun i ρ C' => C' = C ∧ ∃ s y, ρ = [some (.scr ns), some (.int turn), some (.int x), some (.int s), y]) ⟨rfl, _, _, rfl⟩ ?_ ?_
    · rintro i d ρ C' hd ⟨rfl, s, y, rfl⟩ E' hE hn hb
      have : ∃ k : Int, d = .int k := by
        have hm := List.mem_of_getElem? hd
        have := List.mem_of_mem_drop (List.mem_of_mem_take hm)
        obtain ⟨k, _, rfl⟩ := List.mem_map.mp this
        exact ⟨k, rfl⟩
      obtain ⟨k, rfl⟩ := this
      unfold wTg
      simp only [wpSs, wpS, wpX, wpL, wpBo, wpO, wpTs, wpJ, wpI, plainX, boolX, noT, varW, List.getElem?_cons_zero, List.getElem?_cons_succ, List.set_cons_zero, List.set_cons_succ, cD, fnEn, view_int, view_bl, view_str, view_non, view_lst, view_tupl, view_ins, view_dct, view_scr, add_int, sub_int, mul_int, mod_int, div_int, idx_lst, idx_tup, wIf_t, wIf_f, lt_int, le_int, gt_int, ge_int, eq_int, ne_int, List.map_cons, List.map_nil]
      refine ⟨mulok_r ⟨by omega, by omega⟩, bi_int ?_⟩
      simp only [wpSs, wpS, wpX, wpL, wpBo, wpO, wpTs, wpJ, wpI, plainX, boolX, noT, varW, List.getElem?_cons_zero, List.getElem?_cons_succ, List.set_cons_zero, List.set_cons_succ, cD, fnEn, view_int, view_bl, view_str, view_non, view_lst, view_tupl, view_ins, view_dct, view_scr, add_int, sub_int, mul_int, mod_int, div_int, idx_lst, idx_tup, wIf_t, wIf_f, lt_int, le_int, gt_int, ge_int, eq_int, ne_int, List.map_cons, List.map_nil]
      refine ⟨by omega, bi_int ?_⟩
      simp only [wpSs, wpS, wpX, wpL, wpBo, wpO, wpTs, wpJ, wpI, plainX, boolX, noT, varW, List.getElem?_cons_zero, List.getElem?_cons_succ, List.set_cons_zero, List.set_cons_succ, cD, fnEn, view_int, view_bl, view_str, view_non, view_lst, view_tupl, view_ins, view_dct, view_scr, add_int, sub_int, mul_int, mod_int, div_int, idx_lst, idx_tup, wIf_t, wIf_f, lt_int, le_int, gt_int, ge_int, eq_int, ne_int, List.map_cons, List.map_nil]
      exact ⟨by omega, (hn _ _ ⟨rfl, _, _, rfl⟩).1⟩
    · rintro ρ C' ⟨rfl, s, y, rfl⟩
      simp only [wpSs, wpS, wpX, wpL, wpBo, wpO, wpTs, wpJ, wpI, plainX, boolX, noT, varW, List.getElem?_cons_zero, List.getElem?_cons_succ, List.set_cons_zero, List.set_cons_succ, cD, fnEn, view_int, view_bl, view_str, view_non, view_lst, view_tupl, view_ins, view_dct, view_scr, add_int, sub_int, mul_int, mod_int, div_int, idx_lst, idx_tup, wIf_t, wIf_f, lt_int, le_int, gt_int, ge_int, eq_int, ne_int, List.map_cons, List.map_nil]
      refine ⟨mulok_r ⟨by omega, by omega⟩, bi_int ?_⟩
      simp only [wpSs, wpS, wpX, wpL, wpBo, wpO, wpTs, wpJ, wpI, plainX, boolX, noT, varW, List.getElem?_cons_zero, List.getElem?_cons_succ, List.set_cons_zero, List.set_cons_succ, cD, fnEn, view_int, view_bl, view_str, view_non, view_lst, view_tupl, view_ins, view_dct, view_scr, add_int, sub_int, mul_int, mod_int, div_int, idx_lst, idx_tup, wIf_t, wIf_f, lt_int, le_int, gt_int, ge_int, eq_int, ne_int, List.map_cons, List.map_nil]
      refine ⟨by omega, bi_int ?_⟩
      simp only [wpSs, wpS, wpX, wpL, wpBo, wpO, wpTs, wpJ, wpI, plainX, boolX, noT, varW, List.getElem?_cons_zero, List.getElem?_cons_succ, List.set_cons_zero, List.set_cons_succ, cD, fnEn, view_int, view_bl, view_str, view_non, view_lst, view_tupl, view_ins, view_dct, view_scr, add_int, sub_int, mul_int, mod_int, div_int, idx_lst, idx_tup, wIf_t, wIf_f, lt_int, le_int, gt_int, ge_int, eq_int, ne_int, List.map_cons, List.map_nil]
      refine ⟨by omega, x, rfl, ?_⟩
      simp only [wpSs, wpS, wpX, wpL, wpBo, wpO, wpTs, wpJ, wpI, plainX, boolX, noT, varW, List.getElem?_cons_zero, List.getElem?_cons_succ, List.set_cons_zero, List.set_cons_succ, cD, fnEn, view_int, view_bl, view_str, view_non, view_lst, view_tupl, view_ins, view_dct, view_scr, add_int, sub_int, mul_int, mod_int, div_int, idx_lst, idx_tup, wIf_t, wIf_f, lt_int, le_int, gt_int, ge_int, eq_int, ne_int, List.map_cons, List.map_nil]
      refine ⟨⟨by decide, by decide, by decide⟩, ?_⟩
      simp only [wpSs, wpS, wpX, wpL, wpBo, wpO, wpTs, wpJ, wpI, plainX, boolX, noT, varW, List.getElem?_cons_zero, List.getElem?_cons_succ, List.set_cons_zero, List.set_cons_succ, cD, fnEn, view_int, view_bl, view_str, view_non, view_lst, view_tupl, view_ins, view_dct, view_scr, add_int, sub_int, mul_int, mod_int, div_int, idx_lst, idx_tup, wIf_t, wIf_f, lt_int, le_int, gt_int, ge_int, eq_int, ne_int, List.map_cons, List.map_nil]
      cases decide ((10 : Int) ^ (18 : Int).toNat ≤ if x < 0 then -x else x) with
      | true => exact ⟨x, rfl, by show 3 ≤ sizeLine; decide, fun a ha => h a ha _ _⟩
      | false => exact ⟨by show 3 ≤ sizeLine; decide, fun a ha => h a ha _ _⟩
  refine ⟨_, rfl, ?_⟩
  show wIf (decide (turn < (ns.length : Int))) _ _
  cases e : decide (turn < (ns.length : Int)) with
  | true =>
    have e := of_decide_eq_true e
    have hx : ns[turn.toNat]? = some ns[turn.toNat] := by simp
    refine ⟨ns[turn.toNat], ?_, bi_int (key _)⟩
    have q := atI_nat hx
    rwa [Int.toNat_of_nonneg h0] at q
  | false => exact ⟨mulok_l ⟨by omega, by omega⟩, key _⟩
def sp_sketch : Spec := fun ds C P _ => ∃ w a s t ml mi mw b, ds = [.ref w, .int ml, .int mi, .int mw, .bl b] ∧ (1 ≤ ml ∧ ml ≤ 20) ∧ (1 ≤ mi ∧ mi ≤ 12) ∧ (0 ≤ mw ∧ mw ≤ 9) ∧ C w = some (wellD a s t) ∧
  ∀ (L : Nat) (its : List (Option Nat)) a' s' t', 1 ≤ L → (L : Int) ≤ ml → okIts 9 its → P (.lst [.int L, .lst (its.map itD)]) (cset C w (wellD a' s' t'))
theorem dip_at {C : Cs} {w so : Addr} {a s t size : Int} {L : CO} {K : D → Cs → Prop} {PX : Exc → Cs → Prop} (hne : w ≠ so) (h0 : 0 < size) (h1 : size < 2 ^ 200)
    (k : ∀ r a' s' t', 0 ≤ r → r < size → K (.int r) (cset (cset C w (wellD a' s' t')) so L)) : sp_dip [.ref w, .int size] (cset (cset C w (wellD a s t)) so L) K PX :=
  ⟨w, a, s, t, size, rfl, h0, h1, by rw [cset_ne hne, cset_same], fun r a' s' t' r0 r1 => by
    have e : cset (cset (cset C w (wellD a s t)) so L) w (wellD a' s' t') = cset (cset C w (wellD a' s' t')) so L := by
      rw [cset_comm (Ne.symm hne), cset_cset]
    rw [e]
    exact k r a' s' t' r0 r1⟩
theorem p__law_sketch {f__law_dip : Nat} (g1 : Γ f__law_dip = sp_dip) (ds C Q PX) (h : sp_sketch ds C Q PX) : wpSs Γ (m__law_sketch f__law_dip) (ro0 n__law_sketch ds) C (fnEn Q PX) := by
  obtain ⟨w, a, s, t, ml, mi, mw, b, rfl, h1, h2, h3, hw, h⟩ := h
  rw [show ro0 n__law_sketch [.ref w, .int ml, .int mi, .int mw, .bl b] = [some (.ref w), some (.int ml), some (.int mi), some (.int mw), some (.bl b), none, none, none, none] from rfl]
  unfold m__law_sketch
  simp only [wpSs, wpS, wpX, wpL, wpBo, wpO, wpTs, wpJ, wpI, plainX, boolX, noT, varW, List.getElem?_cons_zero, List.getElem?_cons_succ, List.set_cons_zero, List.set_cons_succ, cD, fnEn, view_int, view_bl, view_str, view_non, view_lst, view_tupl, view_ins, view_dct, view_scr, add_int, sub_int, mul_int, mod_int, div_int, idx_lst, idx_tup, wIf_t, wIf_f, lt_int, le_int, gt_int, ge_int, eq_int, ne_int, List.map_cons, List.map_nil, g1]
  refine ⟨w, a, s, t, ml, rfl, by omega, by omega, hw, fun r a1 s1 t1 r0 r1 => ?_⟩
  simp only [wpSs, wpS, wpX, wpL, wpBo, wpO, wpTs, wpJ, wpI, plainX, boolX, noT, varW, List.getElem?_cons_zero, List.getElem?_cons_succ, List.set_cons_zero, List.set_cons_succ, cD, fnEn, view_int, view_bl, view_str, view_non, view_lst, view_tupl, view_ins, view_dct, view_scr, add_int, sub_int, mul_int, mod_int, div_int, idx_lst, idx_tup, wIf_t, wIf_f, lt_int, le_int, gt_int, ge_int, eq_int, ne_int, List.map_cons, List.map_nil]
  refine ⟨by show 0 ≤ sizeLine; decide, fun so hso => ⟨rfl, ?_⟩⟩
  have hne : w ≠ so := fun e => by rw [← e, cset_same] at hso; cases hso
  have hCso : C so = none := by rw [cset_ne (Ne.symm hne)] at hso; exact hso
  unfold setAll setAll setAll
  simp only [wpSs, wpS, wpX, wpL, wpBo, wpO, wpTs, wpJ, wpI, plainX, boolX, noT, varW, List.getElem?_cons_zero, List.getElem?_cons_succ, List.set_cons_zero, List.set_cons_succ, cD, fnEn, view_int, view_bl, view_str, view_non, view_lst, view_tupl, view_ins, view_dct, view_scr, add_int, sub_int, mul_int, mod_int, div_int, idx_lst, idx_tup, wIf_t, wIf_f, lt_int, le_int, gt_int, ge_int, eq_int, ne_int, List.map_cons, List.map_nil]
  refine dip_at hne (by omega) (by omega) fun r2 a2 s2 t2 p0 p1 => ?_
  simp only [wpSs, wpS, wpX, wpL, wpBo, wpO, wpTs, wpJ, wpI, plainX, boolX, noT, varW, List.getElem?_cons_zero, List.getElem?_cons_succ, List.set_cons_zero, List.set_cons_succ, cD, fnEn, view_int, view_bl, view_str, view_non, view_lst, view_tupl, view_ins, view_dct, view_scr, add_int, sub_int, mul_int, mod_int, div_int, idx_lst, idx_tup, wIf_t, wIf_f, lt_int, le_int, gt_int, ge_int, eq_int, ne_int, List.map_cons, List.map_nil]
  refine for_inv0 (fun i ρ C' => ∃ (its : List (Option Nat)) (a s t : Int) (y z : Option D), its.length = i ∧ (∀ o ∈ its, ∀ n, o = some n → n ≤ 9) ∧ C' = cset (cset C w (wellD a s t)) so (.lst (its.map itD)) ∧
    ρ = [some (.ref w), some (.int ml), some (.int mi), some (.int mw), some (.bl b), some (.int (1 + r)), some (.ref so), y, z]) ⟨[], a2, s2, t2, none, none, rfl, fun o ho => (by cases ho), rfl, rfl⟩ ?_ ?_
  · rintro i d ρ C' hd ⟨its, a, s, t, y, z, hl, hi, rfl, rfl⟩ E hE hn hb
    have hi12 : i < 12 := by
      have := (List.getElem?_eq_some_iff.mp hd).1
      rw [rngL_len] at this
      omega
    have app : ∀ (o : Option Nat) (a s t : Int) (y z : Option D), (∀ n, o = some n → n ≤ 9) → ∀ v, v = itD o → lstC (.ref so) (cset (cset C w (wellD a s t)) so (.lst (its.map itD))) fun x xs => xs.length < sizeLine ∧
        E.nx [some (.ref w), some (.int ml), some (.int mi), some (.int mw), some (.bl b), some (.int (1 + r)), some (.ref so), y, z] (cset (cset (cset C w (wellD a s t)) so (.lst (its.map itD))) so (.lst (xs ++ [v]))) := fun o a s t y z ho v hv => by
      refine lstC_ref cset_same ⟨?_, ?_⟩
      · rw [List.length_map, hl]
        exact Nat.lt_trans hi12 (by decide)
      · rw [cset_cset, hv]
        refine (hn _ _ ⟨its ++ [o], a, s, t, y, z, by rw [List.length_append, List.length_singleton, hl], fun o' ho' => ?_, by rw [List.map_append]; rfl, rfl⟩).1
        rcases List.mem_append.mp ho' with q | q
        · exact hi o' q
        · rw [List.mem_singleton] at q
          subst q
          exact ho
    unfold wTg
    simp only [wpSs, wpS, wpX, wpL, wpBo, wpO, wpTs, wpJ, wpI, plainX, boolX, noT, varW, List.getElem?_cons_zero, List.getElem?_cons_succ, List.set_cons_zero, List.set_cons_succ, cD, fnEn, view_int, view_bl, view_str, view_non, view_lst, view_tupl, view_ins, view_dct, view_scr, add_int, sub_int, mul_int, mod_int, div_int, idx_lst, idx_tup, wIf_t, wIf_f, lt_int, le_int, gt_int, ge_int, eq_int, ne_int, List.map_cons, List.map_nil]
    refine dip_at hne (by omega) (by omega) fun r3 a3 s3 t3 p0 p1 => ?_
    simp only [wpSs, wpS, wpX, wpL, wpBo, wpO, wpTs, wpJ, wpI, plainX, boolX, noT, varW, List.getElem?_cons_zero, List.getElem?_cons_succ, List.set_cons_zero, List.set_cons_succ, cD, fnEn, view_int, view_bl, view_str, view_non, view_lst, view_tupl, view_ins, view_dct, view_scr, add_int, sub_int, mul_int, mod_int, div_int, idx_lst, idx_tup, wIf_t, wIf_f, lt_int, le_int, gt_int, ge_int, eq_int, ne_int, List.map_cons, List.map_nil]
    refine lstC_ref cset_same ?_
    have last : ∀ (a s t : Int) (y : Option D) (bb : Bool), wIf bb (lstC (.ref so) (cset (cset C w (wellD a s t)) so (.lst (its.map itD))) fun x xs => xs.length < sizeLine ∧
        E.nx [some (.ref w), some (.int ml), some (.int mi), some (.int mw), some (.bl b), some (.int (1 + r)), some (.ref so), y, some (.bl bb)] (cset (cset (cset C w (wellD a s t)) so (.lst (its.map itD))) so (.lst (xs ++ [.int 0]))))
        (sp_dip [.ref w, .int (mw + 1)] (cset (cset C w (wellD a s t)) so (.lst (its.map itD))) (fun v C2 => lstC (.ref so) C2 fun x xs => xs.length < sizeLine ∧
          E.nx [some (.ref w), some (.int ml), some (.int mi), some (.int mw), some (.bl b), some (.int (1 + r)), some (.ref so), y, some (.bl bb)] (cset C2 so (.lst (xs ++ [v])))) fun e C3 => E.ex e [some (.ref w), some (.int ml), some (.int mi), some (.int mw), some (.bl b), some (.int (1 + r)), some (.ref so), y, some (.bl bb)] C3) := fun a s t y bb => by
      cases bb with
      | true => exact app (some 0) a s t y _ (fun n e => by injection e with e; omega) _ rfl
      | false =>
        rw [wIf_f]
        refine dip_at (size := mw + 1) hne (by omega) (by omega) fun r4 a4 s4 t4 p0 p1 => ?_
        refine app (some r4.toNat) a4 s4 t4 y _ (fun n e => by injection e with e; have := h3.2; omega) _ ?_
        show D.int r4 = D.int (r4.toNat : Int)
        rw [Int.toNat_of_nonneg p0]
    cases b with
    | true =>
      unfold wTru
      simp only [wpSs, wpS, wpX, wpL, wpBo, wpO, wpTs, wpJ, wpI, plainX, boolX, noT, varW, List.getElem?_cons_zero, List.getElem?_cons_succ, List.set_cons_zero, List.set_cons_succ, cD, fnEn, view_int, view_bl, view_str, view_non, view_lst, view_tupl, view_ins, view_dct, view_scr, add_int, sub_int, mul_int, mod_int, div_int, idx_lst, idx_tup, wIf_t, wIf_f, lt_int, le_int, gt_int, ge_int, eq_int, ne_int, List.map_cons, List.map_nil]
      refine dip_at hne (by omega) (by omega) fun r5 a5 s5 t5 p0 p1 => ?_
      show wIf (decide (r5 = 0)) _ _
      cases decide (r5 = 0) with
      | true => exact app none a5 s5 t5 _ _ (fun n e => by cases e) _ rfl
      | false => exact last a5 s5 t5 _ _
    | false => exact last a3 s3 t3 _ _
  · rintro ρ C' ⟨its, a, s, t, y, z, hl, hi, rfl, rfl⟩
    rw [rngL_len] at hl
    simp only [wpSs, wpS, wpX, wpL, wpBo, wpO, wpTs, wpJ, wpI, plainX, boolX, noT, varW, List.getElem?_cons_zero, List.getElem?_cons_succ, List.set_cons_zero, List.set_cons_succ, cD, fnEn, view_int, view_bl, view_str, view_non, view_lst, view_tupl, view_ins, view_dct, view_scr, add_int, sub_int, mul_int, mod_int, div_int, idx_lst, idx_tup, wIf_t, wIf_f, lt_int, le_int, gt_int, ge_int, eq_int, ne_int, List.map_cons, List.map_nil]
    refine frzV_lst cset_same ?_
    refine ⟨by show 2 ≤ sizeLine; decide, ?_⟩
    rw [cdel_cset (by rw [cset_ne (Ne.symm hne)]; exact hCso)]
    have e : (1 + r) = ((1 + r).toNat : Int) := by omega
    rw [e]
    exact h (1 + r).toNat its a s t (by omega) (by omega) ⟨by omega, by omega, hi⟩
end Mp.g

set_option Elab.async false
set_option linter.all false
set_option maxRecDepth 100000
set_option maxHeartbeats 1000000
namespace Mp.g
open PySem PySem.Spec L2 Mp
variable {Γ : Specs}
def wsh (its : List (Option Nat)) : List Nat := its.map (·.getD 0)
abbrev gard (c : Nat) (t : D) (l : Int) (its : List (Option Nat)) : D := .ins c [t, .int l, .tup (its.map itD)]
def or0 : D → D
  | .int n => .int n
  | _ => .int 0
theorem or0_its (its : List (Option Nat)) : (its.map itD).map or0 = ((wsh its).map fun n : Nat => (n : Int)).map D.int := by
  unfold wsh
  rw [List.map_map, List.map_map, List.map_map]
  refine List.map_congr_left fun o _ => ?_
  cases o <;> rfl
theorem wsh_len (its : List (Option Nat)) : (wsh its).length = its.length := List.length_map ..
theorem wsh_sum (w : List Nat) : (w.map fun n : Nat => (n : Int)).sum = (w.sum : Int) := by
  induction w with
  | nil => rfl
  | cons a w ih => rw [List.map_cons, List.sum_cons, List.sum_cons, ih]; omega
theorem le_sum9 : ∀ {w : List Nat}, (∀ n ∈ w, n ≤ 9) → w.sum ≤ 9 * w.length
  | [], _ => Nat.le_refl _
  | a :: w, h => by
    have := le_sum9 (w := w) fun n hn => h n (List.mem_cons_of_mem _ hn)
    have := h a (List.mem_cons_self ..)
    rw [List.sum_cons, List.length_cons]
    omega
theorem wsh_le {its : List (Option Nat)} (h : okIts 9 its) : ∀ n ∈ wsh its, n ≤ 9 := fun n hn => by
  obtain ⟨o, ho, rfl⟩ := List.mem_map.mp hn
  cases o with
  | none => exact Nat.zero_le _
  | some n => exact h.2.2 _ ho n rfl
theorem wsh_sum_le {its : List (Option Nat)} (h : okIts 9 its) : (wsh its).sum ≤ 108 := by
  have := le_sum9 (wsh_le h)
  rw [wsh_len] at this
  have := h.2.1
  omega
def sp_up_to (c : Nat) : Spec := fun ds C P _ => ∃ t l its p, ds = [gard c t l its, .int p] ∧ okIts 9 its ∧ 0 ≤ p ∧ P (.int (U (wsh its) p.toNat : Nat)) C
theorem beds_comp {ρ0 : Ro} {its : List (Option Nat)} {C : Cs} {K : List D → Cs → Prop} (ok : okIts 9 its) (h3 : 3 < ρ0.length) (k : K (((wsh its).map fun n : Nat => (n : Int)).map D.int) C) :
    compW (.nm 3) (fun ρ C K => K true ρ C) (fun ρ C K => (wpX Γ (.bo .Or [.var 3 false, .cst (.int 0)])).val ρ C K xd0) ρ0 (its.map itD) C [] K := by
  refine comp_map or0 (fun d hd Q E q => ?_) ?_ ?_
  · obtain ⟨o, _, rfl⟩ := List.mem_map.mp hd
    have e3 : ∀ d, (ρ0.set 3 (some d))[3]? = some (some d) := fun d => by simp [h3]
    simp only [wpSs, wpS, wpX, wpL, wpBo, wpO, wpTs, wpJ, wpI, plainX, boolX, noT, varW, List.getElem?_cons_zero, List.getElem?_cons_succ, List.set_cons_zero, List.set_cons_succ, cD, fnEn, view_int, view_bl, view_str, view_non, view_lst, view_tupl, view_ins, view_dct, view_scr, add_int, sub_int, mul_int, mod_int, div_int, idx_lst, idx_tup, wIf_t, wIf_f, lt_int, le_int, gt_int, ge_int, eq_int, ne_int, List.map_cons, List.map_nil, wTg, e3]
    cases o with
    | none => exact q _
    | some n =>
      show wIf ((n : Int) != 0) _ _
      cases e : ((n : Int) != 0) with
      | true => exact q _
      | false =>
        have e : n = 0 := by simpa using e
        subst e
        exact q _
  · rw [List.length_map]
    exact Nat.le_trans ok.2.1 (by decide)
  · rw [or0_its]
    exact k
theorem beds_comp' {ρ0 : Ro} {v : Nat} {its : List (Option Nat)} {C : Cs} {K : List D → Cs → Prop} (ok : okIts 9 its) (h3 : v < ρ0.length) (k : K (((wsh its).map fun n : Nat => (n : Int)).map D.int) C) :
    compW (.nm v) (fun ρ C K => K true ρ C) (fun ρ C K => (wpX Γ (.bo .Or [.var v false, .cst (.int 0)])).val ρ C K xd0) ρ0 (its.map itD) C [] K := by
  refine comp_map or0 (fun d hd Q E q => ?_) ?_ ?_
  · obtain ⟨o, _, rfl⟩ := List.mem_map.mp hd
    have e3 : ∀ d, (ρ0.set v (some d))[v]? = some (some d) := fun d => by simp [h3]
    simp only [wpSs, wpS, wpX, wpL, wpBo, wpO, wpTs, wpJ, wpI, plainX, boolX, noT, varW, List.getElem?_cons_zero, List.getElem?_cons_succ, List.set_cons_zero, List.set_cons_succ, cD, fnEn, view_int, view_bl, view_str, view_non, view_lst, view_tupl, view_ins, view_dct, view_scr, add_int, sub_int, mul_int, mod_int, div_int, idx_lst, idx_tup, wIf_t, wIf_f, lt_int, le_int, gt_int, ge_int, eq_int, ne_int, List.map_cons, List.map_nil, wTg, e3]
    cases o with
    | none => exact q _
    | some n =>
      show wIf ((n : Int) != 0) _ _
      cases e : ((n : Int) != 0) with
      | true => exact q _
      | false =>
        have e : n = 0 := by simpa using e
        subst e
        exact q _
  · rw [List.length_map]
    exact Nat.le_trans ok.2.1 (by decide)
  · rw [or0_its]
    exact k
theorem cut_hi (ds : List D) (a : Nat) (h : a ≤ ds.length) : cutD ds none (some (a : Int)) = ds.take a := by
  unfold cutD
  rw [HT.sIx_nat, HT.sIx_none, List.drop_zero, Nat.sub_zero, Nat.min_eq_left h]
theorem p_up_to {c_Garden f_Garden_beds : Nat} (g1 : Γ f_Garden_beds = sp_Garden_beds c_Garden) (ds C Q PX) (h : sp_up_to c_Garden ds C Q PX) : wpSs Γ (m_up_to c_Garden f_Garden_beds) (ro0 n_up_to ds) C (fnEn Q PX) := by
  obtain ⟨t, l, its, p, rfl, ok, hp, h⟩ := h
  rw [show ro0 n_up_to [gard c_Garden t l its, .int p] = [some (gard c_Garden t l its), some (.int p), none, none, none, none] from rfl]
  unfold m_up_to
  simp only [wpSs, wpS, wpX, wpL, wpBo, wpO, wpTs, wpJ, wpI, plainX, boolX, noT, varW, List.getElem?_cons_zero, List.getElem?_cons_succ, List.set_cons_zero, List.set_cons_succ, cD, fnEn, view_int, view_bl, view_str, view_non, view_lst, view_tupl, view_ins, view_dct, view_scr, add_int, sub_int, mul_int, mod_int, div_int, idx_lst, idx_tup, wIf_t, wIf_f, lt_int, le_int, gt_int, ge_int, eq_int, ne_int, List.map_cons, List.map_nil, g1]
  refine ⟨rfl, t, .int l, .tup (its.map itD), rfl, ?_⟩
  refine beds_comp (Γ := Γ) ok (by simp [wipeD]) ?_
  simp only [wpSs, wpS, wpX, wpL, wpBo, wpO, wpTs, wpJ, wpI, plainX, boolX, noT, varW, List.getElem?_cons_zero, List.getElem?_cons_succ, List.set_cons_zero, List.set_cons_succ, cD, fnEn, view_int, view_bl, view_str, view_non, view_lst, view_tupl, view_ins, view_dct, view_scr, add_int, sub_int, mul_int, mod_int, div_int, idx_lst, idx_tup, wIf_t, wIf_f, lt_int, le_int, gt_int, ge_int, eq_int, ne_int, List.map_cons, List.map_nil, newW, setAll, wTg, lenD, sliD, strD, List.length_cons, List.length_nil]
  refine ⟨_, rfl, ?_⟩
  simp only [wpSs, wpS, wpX, wpL, wpBo, wpO, wpTs, wpJ, wpI, plainX, boolX, noT, varW, List.getElem?_cons_zero, List.getElem?_cons_succ, List.set_cons_zero, List.set_cons_succ, cD, fnEn, view_int, view_bl, view_str, view_non, view_lst, view_tupl, view_ins, view_dct, view_scr, add_int, sub_int, mul_int, mod_int, div_int, idx_lst, idx_tup, wIf_t, wIf_f, lt_int, le_int, gt_int, ge_int, eq_int, ne_int, List.map_cons, List.map_nil, newW, setAll, wTg, lenD, sliD, strD, List.length_cons, List.length_nil]
  have hl : ((((wsh its).map fun n : Nat => (n : Int)).map D.int).length : Int) = ((wsh its).length : Nat) := by simp
  have h0 : 0 < (wsh its).length := by rw [wsh_len]; exact ok.1
  have h12 : (wsh its).length ≤ 12 := by rw [wsh_len]; exact ok.2.1
  have hs := wsh_sum_le ok
  rw [hl]
  refine ⟨_, _, rfl, ⟨by omega, by omega⟩, ?_⟩
  simp only [wpSs, wpS, wpX, wpL, wpBo, wpO, wpTs, wpJ, wpI, plainX, boolX, noT, varW, List.getElem?_cons_zero, List.getElem?_cons_succ, List.set_cons_zero, List.set_cons_succ, cD, fnEn, view_int, view_bl, view_str, view_non, view_lst, view_tupl, view_ins, view_dct, view_scr, add_int, sub_int, mul_int, mod_int, div_int, idx_lst, idx_tup, wIf_t, wIf_f, lt_int, le_int, gt_int, ge_int, eq_int, ne_int, List.map_cons, List.map_nil, newW, setAll, wTg, lenD, sliD, strD, List.length_cons, List.length_nil]
  refine ⟨trivial, _, .inl rfl, ?_⟩
  rw [wsh_sum]
  simp only [wpSs, wpS, wpX, wpL, wpBo, wpO, wpTs, wpJ, wpI, plainX, boolX, noT, varW, List.getElem?_cons_zero, List.getElem?_cons_succ, List.set_cons_zero, List.set_cons_succ, cD, fnEn, view_int, view_bl, view_str, view_non, view_lst, view_tupl, view_ins, view_dct, view_scr, add_int, sub_int, mul_int, mod_int, div_int, idx_lst, idx_tup, wIf_t, wIf_f, lt_int, le_int, gt_int, ge_int, eq_int, ne_int, List.map_cons, List.map_nil, newW, setAll, wTg, lenD, sliD, strD, List.length_cons, List.length_nil]
  refine ⟨mulok_r ⟨by omega, by omega⟩, ?_⟩
  have hr0 := Int.emod_nonneg p (show ((wsh its).length : Int) ≠ 0 by omega)
  have hr1 := Int.emod_lt_of_pos p (show 0 < ((wsh its).length : Int) by omega)
  have er : p % ((wsh its).length : Int) = ((p.toNat % (wsh its).length : Nat) : Int) := by
    rw [Int.natCast_emod, Int.toNat_of_nonneg hp]
  have eq : p / ((wsh its).length : Int) = ((p.toNat / (wsh its).length : Nat) : Int) := by
    rw [Int.natCast_ediv, Int.toNat_of_nonneg hp]
  have lm := Nat.mod_lt p.toNat h0
  rw [er, eq, cut_hi _ _ (by rw [List.length_map, List.length_map]; omega)]
  refine ⟨((wsh its).take (p.toNat % (wsh its).length)).map fun n : Nat => (n : Int), .inl (by rw [← List.map_take, ← List.map_take]), ?_⟩
  rw [wsh_sum]
  simp only [wpSs, wpS, wpX, wpL, wpBo, wpO, wpTs, wpJ, wpI, plainX, boolX, noT, varW, List.getElem?_cons_zero, List.getElem?_cons_succ, List.set_cons_zero, List.set_cons_succ, cD, fnEn, view_int, view_bl, view_str, view_non, view_lst, view_tupl, view_ins, view_dct, view_scr, add_int, sub_int, mul_int, mod_int, div_int, idx_lst, idx_tup, wIf_t, wIf_f, lt_int, le_int, gt_int, ge_int, eq_int, ne_int, List.map_cons, List.map_nil, newW, setAll, wTg, lenD, sliD, strD, List.length_cons, List.length_nil]
  have e : ((U (wsh its) p.toNat : Nat) : Int) = ((p.toNat / (wsh its).length : Nat) : Int) * ((wsh its).sum : Nat) + (((wsh its).take (p.toNat % (wsh its).length)).sum : Nat) := by
    unfold U
    rw [Int.natCast_add, Int.natCast_mul]
  rw [← e]
  exact h
def sp_place_of_litre (c : Nat) : Spec := fun ds C P _ => ∃ t l its, ∃ n : Nat, ds = [gard c t l its, .int n] ∧ okIts 9 its ∧ 0 < (wsh its).sum ∧ 1 ≤ n ∧ P (.int (pl (wsh its) n : Nat)) C
theorem p_place_of_litre {c_Garden f_Garden_beds : Nat} (g1 : Γ f_Garden_beds = sp_Garden_beds c_Garden) (ds C Q PX) (h : sp_place_of_litre c_Garden ds C Q PX) : wpSs Γ (m_place_of_litre c_Garden f_Garden_beds) (ro0 n_place_of_litre ds) C (fnEn Q PX) := by
  obtain ⟨t, l, its, n, rfl, ok, s0, n1, h⟩ := h
  rw [show ro0 n_place_of_litre [gard c_Garden t l its, .int n] = [some (gard c_Garden t l its), some (.int n), none, none, none, none, none] from rfl]
  unfold m_place_of_litre
  simp only [wpSs, wpS, wpX, wpL, wpBo, wpO, wpTs, wpJ, wpI, plainX, boolX, noT, varW, List.getElem?_cons_zero, List.getElem?_cons_succ, List.set_cons_zero, List.set_cons_succ, cD, fnEn, view_int, view_bl, view_str, view_non, view_lst, view_tupl, view_ins, view_dct, view_scr, add_int, sub_int, mul_int, mod_int, div_int, idx_lst, idx_tup, wIf_t, wIf_f, lt_int, le_int, gt_int, ge_int, eq_int, ne_int, List.map_cons, List.map_nil, g1]
  refine ⟨rfl, t, .int l, .tup (its.map itD), rfl, ?_⟩
  refine beds_comp (Γ := Γ) ok (by simp [wipeD]) ?_
  simp only [wpSs, wpS, wpX, wpL, wpBo, wpO, wpTs, wpJ, wpI, plainX, boolX, noT, varW, List.getElem?_cons_zero, List.getElem?_cons_succ, List.set_cons_zero, List.set_cons_succ, cD, fnEn, view_int, view_bl, view_str, view_non, view_lst, view_tupl, view_ins, view_dct, view_scr, add_int, sub_int, mul_int, mod_int, div_int, idx_lst, idx_tup, wIf_t, wIf_f, lt_int, le_int, gt_int, ge_int, eq_int, ne_int, List.map_cons, List.map_nil, newW, setAll, wTg, lenD, sliD, strD, List.length_cons, List.length_nil]
  refine ⟨_, .inl rfl, ?_⟩
  rw [wsh_sum]
  simp only [wpSs, wpS, wpX, wpL, wpBo, wpO, wpTs, wpJ, wpI, plainX, boolX, noT, varW, List.getElem?_cons_zero, List.getElem?_cons_succ, List.set_cons_zero, List.set_cons_succ, cD, fnEn, view_int, view_bl, view_str, view_non, view_lst, view_tupl, view_ins, view_dct, view_scr, add_int, sub_int, mul_int, mod_int, div_int, idx_lst, idx_tup, wIf_t, wIf_f, lt_int, le_int, gt_int, ge_int, eq_int, ne_int, List.map_cons, List.map_nil, newW, setAll, wTg, lenD, sliD, strD, List.length_cons, List.length_nil]
  have h0 : 0 < (wsh its).length := by rw [wsh_len]; exact ok.1
  have h12 : (wsh its).length ≤ 12 := by rw [wsh_len]; exact ok.2.1
  have hs := wsh_sum_le ok
  have er : ((n : Int) - 1) % ((wsh its).sum : Int) = (((n - 1) % (wsh its).sum : Nat) : Int) := by
    rw [Int.natCast_emod, Int.natCast_sub n1]
    rfl
  have eq : ((n : Int) - 1) / ((wsh its).sum : Int) = (((n - 1) / (wsh its).sum : Nat) : Int) := by
    rw [Int.natCast_ediv, Int.natCast_sub n1]
    rfl
  have lm := Nat.mod_lt (n - 1) s0
  refine ⟨_, _, rfl, ⟨by omega, by omega⟩, ?_⟩
  simp only [wpSs, wpS, wpX, wpL, wpBo, wpO, wpTs, wpJ, wpI, plainX, boolX, noT, varW, List.getElem?_cons_zero, List.getElem?_cons_succ, List.set_cons_zero, List.set_cons_succ, cD, fnEn, view_int, view_bl, view_str, view_non, view_lst, view_tupl, view_ins, view_dct, view_scr, add_int, sub_int, mul_int, mod_int, div_int, idx_lst, idx_tup, wIf_t, wIf_f, lt_int, le_int, gt_int, ge_int, eq_int, ne_int, List.map_cons, List.map_nil, newW, setAll, wTg, lenD, sliD, strD, List.length_cons, List.length_nil]
  refine ⟨trivial, ?_⟩
  rw [er, eq]
  refine ⟨fun m ρ C' => C' = C ∧ ∃ a : Nat, a ≤ (wsh its).length ∧ m = (wsh its).length - a ∧ (a = 0 ∨ ((wsh its).take (a - 1)).sum ≤ (n - 1) % (wsh its).sum) ∧
    ρ = [some (gard c_Garden t l its), some (.int n), some (.lst (((wsh its).map fun n : Nat => (n : Int)).map D.int)), none, some (.int ((n - 1) / (wsh its).sum : Nat)), some (.int (((n - 1) % (wsh its).sum : Nat) - (((wsh its).take a).sum : Nat))), some (.int a)], ⟨_, rfl, 0, Nat.zero_le _, rfl, .inl rfl, rfl⟩, ?_⟩
  rintro m ρ C' ⟨rfl, a, ha, rfl, hl, rfl⟩
  simp only [wpSs, wpS, wpX, wpL, wpBo, wpO, wpTs, wpJ, wpI, plainX, boolX, noT, varW, List.getElem?_cons_zero, List.getElem?_cons_succ, List.set_cons_zero, List.set_cons_succ, cD, fnEn, view_int, view_bl, view_str, view_non, view_lst, view_tupl, view_ins, view_dct, view_scr, add_int, sub_int, mul_int, mod_int, div_int, idx_lst, idx_tup, wIf_t, wIf_f, lt_int, le_int, gt_int, ge_int, eq_int, ne_int, List.map_cons, List.map_nil, newW, setAll, wTg, lenD, sliD, strD, List.length_cons, List.length_nil]
  cases e : decide ((0 : Int) ≤ ((n - 1) % (wsh its).sum : Nat) - (((wsh its).take a).sum : Nat)) with
  | true =>
    have e := of_decide_eq_true e
    have ha : a < (wsh its).length := by
      rcases Nat.lt_or_ge a (wsh its).length with q | q
      · exact q
      · have : a = (wsh its).length := by omega
        subst this
        rw [take_len] at e
        omega
    simp only [wpSs, wpS, wpX, wpL, wpBo, wpO, wpTs, wpJ, wpI, plainX, boolX, noT, varW, List.getElem?_cons_zero, List.getElem?_cons_succ, List.set_cons_zero, List.set_cons_succ, cD, fnEn, view_int, view_bl, view_str, view_non, view_lst, view_tupl, view_ins, view_dct, view_scr, add_int, sub_int, mul_int, mod_int, div_int, idx_lst, idx_tup, wIf_t, wIf_f, lt_int, le_int, gt_int, ge_int, eq_int, ne_int, List.map_cons, List.map_nil, newW, setAll, wTg, lenD, sliD, strD, List.length_cons, List.length_nil]
    refine ⟨.int ((wsh its)[a] : Nat), atI_nat (by simp [ha]), _, _, rfl, rfl, ?_⟩
    refine ⟨_, _, rfl, rfl, (wsh its).length - (a + 1), by omega, trivial, a + 1, ha, rfl, .inr ?_, ?_⟩
    · rw [Nat.add_sub_cancel]
      omega
    · rw [take_succ_sum _ _ ha]
      rw [Int.natCast_add, Int.natCast_add, Int.sub_sub]
      rfl
  | false =>
    have e := of_decide_eq_false e
    simp only [wpSs, wpS, wpX, wpL, wpBo, wpO, wpTs, wpJ, wpI, plainX, boolX, noT, varW, List.getElem?_cons_zero, List.getElem?_cons_succ, List.set_cons_zero, List.set_cons_succ, cD, fnEn, view_int, view_bl, view_str, view_non, view_lst, view_tupl, view_ins, view_dct, view_scr, add_int, sub_int, mul_int, mod_int, div_int, idx_lst, idx_tup, wIf_t, wIf_f, lt_int, le_int, gt_int, ge_int, eq_int, ne_int, List.map_cons, List.map_nil, newW, setAll, wTg, lenD, sliD, strD, List.length_cons, List.length_nil]
    refine ⟨_, rfl, ?_⟩
    simp only [wpSs, wpS, wpX, wpL, wpBo, wpO, wpTs, wpJ, wpI, plainX, boolX, noT, varW, List.getElem?_cons_zero, List.getElem?_cons_succ, List.set_cons_zero, List.set_cons_succ, cD, fnEn, view_int, view_bl, view_str, view_non, view_lst, view_tupl, view_ins, view_dct, view_scr, add_int, sub_int, mul_int, mod_int, div_int, idx_lst, idx_tup, wIf_t, wIf_f, lt_int, le_int, gt_int, ge_int, eq_int, ne_int, List.map_cons, List.map_nil, newW, setAll, wTg, lenD, sliD, strD, List.length_cons, List.length_nil]
    refine ⟨mulok_r ⟨by simp; omega, by simp; omega⟩, ?_⟩
    have a1 : 1 ≤ a := by
      rcases Nat.eq_zero_or_pos a with q | q
      · subst q
        simp at e
        omega
      · exact q
    rw [pl_uniq h0 (pl_ok s0 n1) (pl_of n a s0 n1 a1 ha (by omega) (by omega)), Int.natCast_add, Int.natCast_mul] at h
    simpa using h
end Mp.g

set_option Elab.async false
set_option linter.all false
set_option maxRecDepth 100000
set_option maxHeartbeats 1000000
namespace Mp.g
open PySem PySem.Spec L2 Mp
variable {Γ : Specs}
/-! can_in -/
def canT (l : Nat) : Str := (("can " : String) : Str) ++ (toString (l : Int) : String)
def canF : D → D
  | .int i => .str (Str.empty ++ (("can " : String) : Str) ++ (toString i : String))
  | _ => .non
def canL : List D := (rngL 1 1 20).map canF
def canK (k : Nat) : Bool := canL.any (fun z => eqF z (.str (canT (k + 1)))) && eqF (canF (.int (1 + (k : Nat)))) (.str (canT (k + 1))) && (canL.take k).all (fun z => !eqF z (.str (canT (k + 1)))) &&
  decide ((Str.empty ++ (("can " : String) : Str) ++ (toString (1 + (k : Nat) : Int) : String)).length ≤ 10) && decide ((1 + (k : Nat) : Int).natAbs.log2 < 1920)
theorem canK_ok : ∀ k < 20, canK k = true := by decide +kernel
theorem can_flat : canL.all flatD = true := by decide +kernel
def sp_can_in : Spec := fun ds C P _ => ∃ l : Nat, ds = [.str (canT l)] ∧ 1 ≤ l ∧ l ≤ 20 ∧ P (.int l) C
theorem p_can_in (ds C Q PX) (h : sp_can_in ds C Q PX) : wpSs Γ m_can_in (ro0 n_can_in ds) C (fnEn Q PX) := by
  obtain ⟨l, rfl, h1, h2, h⟩ := h
  unfold m_can_in
  rw [show ro0 n_can_in [.str (canT l)] = [some (.str (canT l)), none, none] from rfl]
  simp only [wpSs, wpS, wpX, wpL, wpBo, wpO, wpTs, wpJ, wpI, plainX, boolX, noT, varW, List.getElem?_cons_zero, List.getElem?_cons_succ, List.set_cons_zero, List.set_cons_succ, cD, fnEn, view_int, view_bl, view_str, view_non, view_lst, view_tupl, view_ins, view_dct, view_scr, add_int, sub_int, mul_int, mod_int, div_int, idx_lst, idx_tup, wIf_t, wIf_f, lt_int, le_int, gt_int, ge_int, eq_int, ne_int, List.map_cons, List.map_nil, newW, setAll, wTg, lenD, sliD, strD, List.length_cons, List.length_nil]
  refine comp_map canF (fun d hd Q E q => ?_) (by rw [rngL_len]; decide) ?_
  · rw [rngL_map] at hd
    obtain ⟨k, hk, rfl⟩ := List.mem_map.mp hd
    have hk : k < 20 := by simpa using hk
    have c := canK_ok k hk
    unfold canK at c
    simp only [Bool.and_eq_true, decide_eq_true_eq] at c
    simp only [wpSs, wpS, wpX, wpL, wpBo, wpO, wpTs, wpJ, wpI, plainX, boolX, noT, varW, List.getElem?_cons_zero, List.getElem?_cons_succ, List.set_cons_zero, List.set_cons_succ, cD, fnEn, view_int, view_bl, view_str, view_non, view_lst, view_tupl, view_ins, view_dct, view_scr, add_int, sub_int, mul_int, mod_int, div_int, idx_lst, idx_tup, wIf_t, wIf_f, lt_int, le_int, gt_int, ge_int, eq_int, ne_int, List.map_cons, List.map_nil, newW, setAll, wTg, lenD, sliD, strD, List.length_cons, List.length_nil, wipeD, List.foldl]
    exact ⟨by decide, c.2, Nat.le_trans c.1.2 (by decide), q _⟩
  · obtain ⟨k, rfl⟩ : ∃ k, l = k + 1 := ⟨l - 1, by omega⟩
    have hk : k < 20 := by omega
    have c := canK_ok k hk
    unfold canK at c
    simp only [Bool.and_eq_true, decide_eq_true_eq] at c
    obtain ⟨⟨⟨⟨c1, c2⟩, c3⟩, c4⟩, c5⟩ := c
    change wIf (canL.any fun z => eqF z (.str (canT (k + 1)))) _ _
    rw [c1]
    refine ⟨canL, _, canF (.int (1 + (k : Nat))), k, rfl, rfl, ⟨rfl, can_flat⟩, ?_, c2, ?_, ?_⟩
    · unfold canL
      rw [List.getElem?_map, rngL_get _ _ _ _ hk, Int.mul_one]
      rfl
    · intro m z hm hz
      have := List.all_eq_true.mp c3 z (List.mem_of_getElem? (i := m) (by rw [List.getElem?_take_of_lt hm]; exact hz))
      simpa using this
    · exact h
/-! items_in -/
def wrd : Option Nat → Str
  | none => (("tap" : String) : Str)
  | some n => (toString (n : Int) : String)
def lineT (its : List (Option Nat)) : Str := Txt.join (((" " : String)) : Str) ((("items" : String) : Str) :: its.map wrd)
def dS : D → Str
  | .int i => (toString i : String)
  | _ => Str.empty
def kn0 : List Key × List D := (rngL 0 1 10).foldl (fun p d => (dputK p.1 (.inr (dS d)), dputD p.1 p.2 (.inr (dS d)) d)) ([], [])
def kn : List Key × List D := (dputK kn0.1 (.inr (("tap" : String) : Str)), dputD kn0.1 kn0.2 (.inr (("tap" : String) : Str)) .non)
theorem kn_none : dget kn.1 kn.2 (.inr (wrd none)) = some (itD none) := by kernel_rfl
theorem kn_some : ∀ n, n ≤ 9 → dget kn.1 kn.2 (.inr (wrd (some n))) = some (itD (some n))
  | 0, _ => by kernel_rfl
  | 1, _ => by kernel_rfl
  | 2, _ => by kernel_rfl
  | 3, _ => by kernel_rfl
  | 4, _ => by kernel_rfl
  | 5, _ => by kernel_rfl
  | 6, _ => by kernel_rfl
  | 7, _ => by kernel_rfl
  | 8, _ => by kernel_rfl
  | 9, _ => by kernel_rfl
  | n + 10, h => absurd h (by omega)
theorem kn_get {its : List (Option Nat)} (ok : okIts 9 its) : ∀ o ∈ its, dget kn.1 kn.2 (.inr (wrd o)) = some (itD o)
  | none, _ => kn_none
  | some n, h => kn_some n (ok.2.2 _ h n rfl)
def wchk (n : Nat) : Bool := decide (32 ∉ (wrd (some n)).cps.toList) && decide (10 ∉ (wrd (some n)).cps.toList) && decide ((wrd (some n)).length ≤ 3)
theorem wchk_ok : ∀ n < 10, wchk n = true := by decide +kernel
theorem wrd_ok {its : List (Option Nat)} (ok : okIts 9 its) : ∀ o ∈ its, 32 ∉ (wrd o).cps.toList ∧ 10 ∉ (wrd o).cps.toList ∧ (wrd o).length ≤ 3
  | none, _ => by decide +kernel
  | some n, h => by
    have := wchk_ok n (by have := ok.2.2 _ h n rfl; omega)
    unfold wchk at this
    simp only [Bool.and_eq_true, decide_eq_true_eq] at this
    exact ⟨this.1.1, this.1.2, this.2⟩
theorem line_free {its : List (Option Nat)} (ok : okIts 9 its) : ∀ p ∈ (("items" : String) : Str) :: its.map wrd, 32 ∉ p.cps.toList ∧ 10 ∉ p.cps.toList ∧ p.length ≤ 5 := by
  intro p hp
  rcases List.mem_cons.mp hp with rfl | hp
  · decide +kernel
  · obtain ⟨o, ho, rfl⟩ := List.mem_map.mp hp
    have := wrd_ok ok o ho
    exact ⟨this.1, this.2.1, by omega⟩
theorem line_split {its : List (Option Nat)} (ok : okIts 9 its) : Txt.split (lineT its) ((" " : String) : Str) = (("items" : String) : Str) :: its.map wrd := by
  rw [show ((" " : String) : Str) = ⟨#[32]⟩ by decide +kernel]
  unfold lineT
  rw [show ((" " : String) : Str) = ⟨#[32]⟩ by decide +kernel]
  exact split_join (List.cons_ne_nil _ _) fun p hp => (line_free ok p hp).1
theorem sum_le_of : ∀ {ys : List Str} {m : Nat}, (∀ p ∈ ys, p.length ≤ m) → (ys.map (·.length)).sum ≤ ys.length * m
  | [], _, _ => Nat.zero_le _
  | y :: ys, m, h => by
    have := sum_le_of (ys := ys) fun p hp => h p (List.mem_cons_of_mem _ hp)
    have := h y (List.mem_cons_self ..)
    rw [List.map_cons, List.sum_cons, List.length_cons, Nat.succ_mul]
    omega
theorem line_len {its : List (Option Nat)} (ok : okIts 9 its) : (lineT its).length ≤ 100 := by
  unfold lineT Txt.join
  rw [StrLaws.glued_eq_join]
  refine Nat.le_trans (StrLaws.join_length_le _ _) ?_
  have := sum_le_of fun p hp => (line_free ok p hp).2.2
  have h12 := ok.2.1
  have e : (((" " : String) : Str)).length = 1 := by decide +kernel
  rw [e]
  rw [List.length_cons, List.length_map] at *
  omega
theorem cut_tl (d : D) (ds : List D) : cutD (d :: ds) (some 1) none = ds := by
  unfold cutD
  rw [show (some (1 : Int)) = some ((1 : Nat) : Int) from rfl, HT.sIx_nat, HT.sIx_none, List.length_cons, Nat.min_eq_left (by omega)]
  rw [Nat.add_sub_cancel, List.drop_succ_cons, List.drop_zero, List.take_length]
def sp_items_in : Spec := fun ds C P _ => ∃ its, ds = [.str (lineT its)] ∧ okIts 9 its ∧ ∀ a, C a = none → P (.tup (its.map itD)) (cset C a (.dct kn.1 kn.2))
theorem p_items_in (ds C Q PX) (h : sp_items_in ds C Q PX) : wpSs Γ m_items_in (ro0 n_items_in ds) C (fnEn Q PX) := by
  obtain ⟨its, rfl, ok, h⟩ := h
  unfold m_items_in
  rw [show ro0 n_items_in [.str (lineT its)] = [some (.str (lineT its)), none, none, none, none] from rfl]
  simp only [wpSs, wpS, wpX, wpL, wpBo, wpO, wpTs, wpJ, wpI, plainX, boolX, noT, varW, List.getElem?_cons_zero, List.getElem?_cons_succ, List.set_cons_zero, List.set_cons_succ, cD, fnEn, view_int, view_bl, view_str, view_non, view_lst, view_tupl, view_ins, view_dct, view_scr, add_int, sub_int, mul_int, mod_int, div_int, idx_lst, idx_tup, wIf_t, wIf_f, lt_int, le_int, gt_int, ge_int, eq_int, ne_int, List.map_cons, List.map_nil, newW, setAll, wTg, lenD, sliD, strD, List.length_cons, List.length_nil]
  refine ⟨_, _, rfl, rfl, ⟨by decide +kernel, Nat.le_trans (Nat.add_le_add_right (line_len ok) 2) (by decide)⟩, ?_⟩
  rw [line_split ok]
  simp only [rngD]
  rw [show ((9 : Int) + 1).toNat = 10 from rfl]
  refine dcomp_fold' (fun d => .str (dS d)) (fun d => .inr (dS d)) (fun d => d) (fun d K k => k) (rngL 0 1 10) (r := kn0) rfl (fun d hd Q E q => ?_) (by decide) ?_
  · rw [rngL_map] at hd
    obtain ⟨k, hk, rfl⟩ := List.mem_map.mp hd
    have hk : k < 10 := by simpa using hk
    simp only [wpSs, wpS, wpX, wpL, wpBo, wpO, wpTs, wpJ, wpI, plainX, boolX, noT, varW, List.getElem?_cons_zero, List.getElem?_cons_succ, List.set_cons_zero, List.set_cons_succ, cD, fnEn, view_int, view_bl, view_str, view_non, view_lst, view_tupl, view_ins, view_dct, view_scr, add_int, sub_int, mul_int, mod_int, div_int, idx_lst, idx_tup, wIf_t, wIf_f, lt_int, le_int, gt_int, ge_int, eq_int, ne_int, List.map_cons, List.map_nil, newW, setAll, wTg, lenD, sliD, strD, List.length_cons, List.length_nil, wipeD, List.foldl]
    refine ⟨_, rfl, ?_, q⟩
    exact (show ∀ k < 10, (0 + (k : Nat) : Int).natAbs.log2 < 1920 by decide +kernel) k hk
  intro a ha
  refine setID_dct cset_same ?_
  refine ⟨by decide +kernel, ?_⟩
  rw [cset_cset]
  have hv : ∀ C, view (cset C a (.dct kn.1 kn.2)) (.ref a) = .dct kn.1 kn.2 := fun C => view_refD cset_same
  rw [show dputK kn0.1 (Sum.inr (("tap" : String) : Str)) = kn.1 from rfl, show dputD kn0.1 kn0.2 (Sum.inr (("tap" : String) : Str)) .non = kn.2 from rfl]
  have hv := hv C
  have h := h a ha
  generalize cset C a (CO.dct kn.1 kn.2) = C4 at *
  change idxD (.lst (.str (("items" : String) : Str) :: (its.map wrd).map D.str)) (.int 0) _
  refine ⟨_, (atI_nat (i := 0) rfl : atI _ ((0 : Nat) : Int) = _), ?_⟩
  change wIf (!decide ((("items" : String) : Str) = (("items" : String) : Str))) (Q .non C4) _
  rw [decide_eq_true rfl]
  refine ⟨_, rfl, ?_⟩
  change wIf (decide ((1 : Int) ≤ ((.str (("items" : String) : Str) :: (its.map wrd).map D.str : List D).length : Int) - 1)) (wIf (!decide (((.str (("items" : String) : Str) :: (its.map wrd).map D.str : List D).length : Int) - 1 ≤ 12)) _ _) _
  have h1 := ok.1
  have h12 := ok.2.1
  rw [show ((.str (("items" : String) : Str) :: (its.map wrd).map D.str : List D).length : Int) = its.length + 1 by simp]
  rw [decide_eq_true (by omega), decide_eq_true (by omega)]
  simp only [wpSs, wpS, wpX, wpL, wpBo, wpO, wpTs, wpJ, wpI, plainX, boolX, noT, varW, List.getElem?_cons_zero, List.getElem?_cons_succ, List.set_cons_zero, List.set_cons_succ, cD, fnEn, view_int, view_bl, view_str, view_non, view_lst, view_tupl, view_ins, view_dct, view_scr, add_int, sub_int, mul_int, mod_int, div_int, idx_lst, idx_tup, wIf_t, wIf_f, lt_int, le_int, gt_int, ge_int, eq_int, ne_int, List.map_cons, List.map_nil, Bool.not_true, itsD, List.map_cons, cut_tl]
  have hle : ((its.map wrd).map D.str).length ≤ sizeLine := by
    rw [List.length_map, List.length_map]
    exact Nat.le_trans h12 (by decide)
  refine comp_map (fun _ => .bl true) (fun d hd Q E q => ?_) hle ?_
  · obtain ⟨x, hx, rfl⟩ := List.mem_map.mp hd
    obtain ⟨o, ho, rfl⟩ := List.mem_map.mp hx
    simp only [wpSs, wpS, wpX, wpL, wpBo, wpO, wpTs, wpJ, wpI, plainX, boolX, noT, varW, List.getElem?_cons_zero, List.getElem?_cons_succ, List.set_cons_zero, List.set_cons_succ, cD, fnEn, view_int, view_bl, view_str, view_non, view_lst, view_tupl, view_ins, view_dct, view_scr, add_int, sub_int, mul_int, mod_int, div_int, idx_lst, idx_tup, wIf_t, wIf_f, lt_int, le_int, gt_int, ge_int, eq_int, ne_int, List.map_cons, List.map_nil, newW, setAll, wTg, lenD, sliD, strD, List.length_cons, List.length_nil, wipeD, List.foldl, hv]
    have := q [some (.str (lineT its)), some (.lst (.str (("items" : String) : Str) :: (its.map wrd).map D.str)), some (.ref a), none, some (.str (wrd o))]
    rw [show D.bl true = D.bl (dget kn.1 kn.2 (.inr (wrd o))).isSome by rw [kn_get ok o ho]; rfl] at this
    exact this
  refine ⟨_, .inl rfl, by simp [flatT], ?_⟩
  change wIf ((((its.map wrd).map D.str).map fun _ => D.bl true).all truD) _ _
  rw [show (((its.map wrd).map D.str).map fun _ => D.bl true).all truD = true by simp [truD]]
  let gf : D → D := fun d => match d with
    | .str x => (dget kn.1 kn.2 (.inr x)).getD .non
    | _ => .non
  refine comp_map gf (fun d hd Q E q => ?_) hle ?_
  · obtain ⟨x, hx, rfl⟩ := List.mem_map.mp hd
    obtain ⟨o, ho, rfl⟩ := List.mem_map.mp hx
    simp only [wpSs, wpS, wpX, wpL, wpBo, wpO, wpTs, wpJ, wpI, plainX, boolX, noT, varW, List.getElem?_cons_zero, List.getElem?_cons_succ, List.set_cons_zero, List.set_cons_succ, cD, fnEn, view_int, view_bl, view_str, view_non, view_lst, view_tupl, view_ins, view_dct, view_scr, add_int, sub_int, mul_int, mod_int, div_int, idx_lst, idx_tup, wIf_t, wIf_f, lt_int, le_int, gt_int, ge_int, eq_int, ne_int, List.map_cons, List.map_nil, newW, setAll, wTg, lenD, sliD, strD, List.length_cons, List.length_nil, wipeD, List.foldl, hv]
    have := q [some (.str (lineT its)), some (.lst (.str (("items" : String) : Str) :: (its.map wrd).map D.str)), some (.ref a), none, some (.str (wrd o))]
    refine ⟨_, kn_get ok o ho, ?_⟩
    rw [show gf (.str (wrd o)) = itD o by show (dget kn.1 kn.2 (.inr (wrd o))).getD .non = itD o; rw [kn_get ok o ho]; rfl] at this
    exact this
  have e : ((its.map wrd).map D.str).map gf = its.map itD := by
    rw [List.map_map, List.map_map]
    refine List.map_congr_left fun o ho => ?_
    show (dget kn.1 kn.2 (.inr (wrd o))).getD .non = itD o
    rw [kn_get ok o ho]
    rfl
  rw [e]
  exact .inl ⟨_, rfl, h⟩
end Mp.g

set_option Elab.async false
set_option linter.all false
set_option maxRecDepth 100000
set_option maxHeartbeats 1000000
namespace Mp.g
open PySem PySem.Spec L2 Mp
variable {Γ : Specs}
def textT (l : Nat) (its : List (Option Nat)) : Str := (("can " : String) : Str) ++ (toString (l : Int) : String) ++ (("\nitems " : String) : Str) ++ Txt.join ((" " : String) : Str) (its.map wrd)
theorem text_eq {l : Nat} {its : List (Option Nat)} (h : 1 ≤ its.length) : textT l its = Txt.join (("\n" : String) : Str) [canT l, lineT its] := by
  cases its with
  | nil => cases h
  | cons o its =>
    unfold textT lineT canT
    rw [join_cons2, join_one, List.map_cons, join_cons2]
    apply str_ext
    simp only [app_list, List.append_assoc]
    congr 2
theorem can_free : ∀ k < 20, 10 ∉ (canT (k + 1)).cps.toList ∧ (canT (k + 1)).length ≤ 10 := by decide +kernel
theorem text_split {l : Nat} {its : List (Option Nat)} (h1 : 1 ≤ l) (h2 : l ≤ 20) (ok : okIts 9 its) : Txt.split (textT l its) (("\n" : String) : Str) = [canT l, lineT its] := by
  obtain ⟨k, rfl⟩ : ∃ k, l = k + 1 := ⟨l - 1, by omega⟩
  rw [text_eq ok.1, show (("\n" : String) : Str) = ⟨#[10]⟩ by decide +kernel]
  refine split_join (List.cons_ne_nil _ _) fun p hp => ?_
  rcases List.mem_cons.mp hp with rfl | hp
  · exact (can_free k (by omega)).1
  · rw [List.mem_singleton] at hp
    subst hp
    unfold lineT
    rw [show ((" " : String) : Str) = ⟨#[32]⟩ by decide +kernel]
    exact join_free (by decide) fun p hp => (line_free ok p hp).2.1
theorem text_len {l : Nat} {its : List (Option Nat)} (h1 : 1 ≤ l) (h2 : l ≤ 20) (ok : okIts 9 its) : (textT l its).length ≤ 120 := by
  obtain ⟨k, rfl⟩ : ∃ k, l = k + 1 := ⟨l - 1, by omega⟩
  rw [text_eq ok.1]
  unfold Txt.join
  rw [StrLaws.glued_eq_join]
  refine Nat.le_trans (StrLaws.join_length_le _ _) ?_
  have e : (("\n" : String) : Str).length = 1 := by decide +kernel
  have := (can_free k (by omega)).2
  have := line_len ok
  rw [e]
  simp only [List.map_cons, List.map_nil, List.sum_cons, List.sum_nil, List.length_cons, List.length_nil]
  omega
def sp_Garden_init (c : Nat) : Spec := fun ds C P _ => ∃ s l its, ds = [.ref s, .str (textT l its)] ∧ (1 ≤ l ∧ l ≤ 20) ∧ okIts 9 its ∧ C s = some (.ins c []) ∧
  ∀ a, C a = none → P .non (cset (cset C s (.ins c [.str (textT l its), .int l, .tup (its.map itD)])) a (.dct kn.1 kn.2))
theorem p_Garden_init {c_Garden f_can_in f_items_in : Nat} (g1 : Γ f_can_in = sp_can_in) (g2 : Γ f_items_in = sp_items_in) (ds C Q PX) (h : sp_Garden_init c_Garden ds C Q PX) :
    wpSs Γ (m_Garden_init c_Garden f_can_in f_items_in) (ro0 n_Garden_init ds) C (fnEn Q PX) := by
  obtain ⟨s, l, its, rfl, ⟨h1, h2⟩, ok, hs, h⟩ := h
  unfold m_Garden_init
  rw [show ro0 n_Garden_init [.ref s, .str (textT l its)] = [some (.ref s), some (.str (textT l its)), none, none] from rfl]
  simp only [wpSs, wpS, wpX, wpL, wpBo, wpO, wpTs, wpJ, wpI, plainX, boolX, noT, varW, List.getElem?_cons_zero, List.getElem?_cons_succ, List.set_cons_zero, List.set_cons_succ, cD, fnEn, view_int, view_bl, view_str, view_non, view_lst, view_tupl, view_ins, view_dct, view_scr, add_int, sub_int, mul_int, mod_int, div_int, idx_lst, idx_tup, wIf_t, wIf_f, lt_int, le_int, gt_int, ge_int, eq_int, ne_int, List.map_cons, List.map_nil, newW, setAll, wTg, lenD, sliD, strD, List.length_cons, List.length_nil, g1, g2]
  refine ⟨true, by decide +kernel, ?_⟩
  refine ⟨_, _, rfl, rfl, ⟨by decide +kernel, Nat.le_trans (Nat.add_le_add_right (text_len h1 h2 ok) 2) (by decide)⟩, ?_⟩
  rw [text_split h1 h2 ok]
  refine ⟨_, rfl, ?_⟩
  change idxD (.lst [.str (canT l), .str (lineT its)]) (.int 0) _
  refine ⟨_, (atI_nat (i := 0) rfl : atI _ ((0 : Nat) : Int) = _), ?_⟩
  refine ⟨l, rfl, h1, h2, ?_⟩
  change idxD (.lst [.str (canT l), .str (lineT its)]) (.int 1) _
  refine ⟨_, (atI_nat (i := 1) rfl : atI _ ((1 : Nat) : Int) = _), ?_⟩
  refine ⟨its, rfl, ok, fun a ha => ⟨by show 2 ≤ sizeLine; decide, ?_⟩⟩
  have hne : s ≠ a := fun e => by rw [← e, hs] at ha; cases ha
  have hc : Cmp (.lst [.int l, .tup (its.map itD)]) := cmp_of (n := 2) (cmpN_lst fun d hd => by
    rcases List.mem_cons.mp hd with rfl | hd
    · exact cmpN_int
    · rw [List.mem_singleton] at hd
      subst hd
      refine cmpN_tup fun d hd => ?_
      obtain ⟨o, _, rfl⟩ := List.mem_map.mp hd
      cases o
      · exact cmpN_non
      · exact cmpN_int) (by decide)
  refine in_lst_slow (by simp [flatD]) (cmp_of (n := 0) cmpN_non (by decide)) hc ?_
  rw [show (([.int l, .tup (its.map itD)] : List D).any fun z => eqP z .non) = false by rfl]
  simp only [wpSs, wpS, wpX, wpL, wpBo, wpO, wpTs, wpJ, wpI, plainX, boolX, noT, varW, List.getElem?_cons_zero, List.getElem?_cons_succ, List.set_cons_zero, List.set_cons_succ, cD, fnEn, view_int, view_bl, view_str, view_non, view_lst, view_tupl, view_ins, view_dct, view_scr, add_int, sub_int, mul_int, mod_int, div_int, idx_lst, idx_tup, wIf_t, wIf_f, lt_int, le_int, gt_int, ge_int, eq_int, ne_int, List.map_cons, List.map_nil, newW, setAll, wTg, lenD, sliD, strD, List.length_cons, List.length_nil]
  have h := h a ha
  refine setFD_ins (ds := []) (by rw [cset_ne hne]; exact hs) (Nat.zero_le _) ?_
  refine ⟨_, (atI_nat (i := 0) rfl : atI _ ((0 : Nat) : Int) = _), ?_⟩
  refine setFD_ins (ds := [.str (textT l its)]) cset_same (by show 1 ≤ 1; decide) ?_
  refine ⟨_, (atI_nat (i := 1) rfl : atI _ ((1 : Nat) : Int) = _), ?_⟩
  refine setFD_ins (ds := [.str (textT l its), .int l]) cset_same (by show 2 ≤ 2; decide) ?_
  rw [cset_cset, cset_cset, cset_comm (Ne.symm hne)]
  exact h
def sp_text : Spec := fun ds C P _ => ∃ l : Nat, ∃ its, ds = [.lst [.int l, .lst (its.map itD)]] ∧ (1 ≤ l ∧ l ≤ 20) ∧ okIts 9 its ∧ P (.str (textT l its)) C
theorem p__law_text (ds C Q PX) (h : sp_text ds C Q PX) : wpSs Γ m__law_text (ro0 n__law_text ds) C (fnEn Q PX) := by
  obtain ⟨l, its, rfl, ⟨h1, h2⟩, ok, h⟩ := h
  unfold m__law_text
  rw [show ro0 n__law_text [.lst [.int l, .lst (its.map itD)]] = [some (.lst [.int l, .lst (its.map itD)]), none] from rfl]
  simp only [wpSs, wpS, wpX, wpL, wpBo, wpO, wpTs, wpJ, wpI, plainX, boolX, noT, varW, List.getElem?_cons_zero, List.getElem?_cons_succ, List.set_cons_zero, List.set_cons_succ, cD, fnEn, view_int, view_bl, view_str, view_non, view_lst, view_tupl, view_ins, view_dct, view_scr, add_int, sub_int, mul_int, mod_int, div_int, idx_lst, idx_tup, wIf_t, wIf_f, lt_int, le_int, gt_int, ge_int, eq_int, ne_int, List.map_cons, List.map_nil, newW, setAll, wTg, lenD, sliD, strD, List.length_cons, List.length_nil]
  refine ⟨_, (atI_nat (i := 0) rfl : atI _ ((0 : Nat) : Int) = _), ?_⟩
  have l2 : (l : Int).natAbs.log2 < 1920 := (show ∀ l : Nat, l ≤ 20 → (l : Int).natAbs.log2 < 1920 by decide +kernel) l h2
  refine ⟨_, rfl, l2, ?_⟩
  have k : ∃ k, l = k + 1 := ⟨l - 1, by omega⟩
  have c10 : ((("can " : String) : Str)).length + (toString (l : Int) : String).toList.length ≤ 10 ∨ True := .inr trivial
  have cl : ((("can " : String) : Str) ++ Str.ofString (toString (l : Int))).length ≤ 10 := by
    obtain ⟨k, rfl⟩ := k
    exact (can_free k (by omega)).2
  have al : ∀ a b : Str, (a ++ b).length = a.length + b.length := fun a b => Array.size_append
  have c1 : (("can " : String) : Str).length = 4 := by decide +kernel
  have c2 : (("\nitems " : String) : Str).length = 7 := by decide +kernel
  have cl' := cl
  rw [al, c1] at cl'
  have tl := text_len h1 h2 ok
  refine ⟨by rw [← al]; exact Nat.le_trans cl (by decide), ?_⟩
  refine ⟨by rw [c2]; exact Nat.le_trans (Nat.add_le_add_right cl 7) (by decide), ?_⟩
  refine ⟨_, (atI_nat (i := 1) rfl : atI _ ((1 : Nat) : Int) = _), ?_⟩
  let wf : D → D := fun d => match d with
    | .int i => .str (toString i : String)
    | _ => .str (("tap" : String) : Str)
  refine comp_map wf (fun d hd Q E q => ?_) (by rw [List.length_map]; exact Nat.le_trans ok.2.1 (by decide)) ?_
  · obtain ⟨o, ho, rfl⟩ := List.mem_map.mp hd
    simp only [wpSs, wpS, wpX, wpL, wpBo, wpO, wpTs, wpJ, wpI, plainX, boolX, noT, varW, List.getElem?_cons_zero, List.getElem?_cons_succ, List.set_cons_zero, List.set_cons_succ, cD, fnEn, view_int, view_bl, view_str, view_non, view_lst, view_tupl, view_ins, view_dct, view_scr, add_int, sub_int, mul_int, mod_int, div_int, idx_lst, idx_tup, wIf_t, wIf_f, lt_int, le_int, gt_int, ge_int, eq_int, ne_int, List.map_cons, List.map_nil, newW, setAll, wTg, lenD, sliD, strD, List.length_cons, List.length_nil, wipeD, List.foldl]
    cases o with
    | none => exact q _
    | some n =>
      have n9 := ok.2.2 _ ho n rfl
      exact ⟨_, rfl, (show ∀ l : Nat, l ≤ 9 → (l : Int).natAbs.log2 < 1920 by decide +kernel) n n9, q _⟩
  have e : (its.map itD).map wf = (its.map wrd).map D.str := by
    rw [List.map_map, List.map_map]
    refine List.map_congr_left fun o _ => ?_
    cases o <;> rfl
  rw [e]
  have sp1 : (((" " : String) : Str)).length = 1 := by decide +kernel
  have sl := sum_le_of (ys := its.map wrd) (m := 3) fun p hp => by
    obtain ⟨o, ho, rfl⟩ := List.mem_map.mp hp
    exact (wrd_ok ok o ho).2.2
  have h12 := ok.2.1
  refine ⟨_, _, rfl, rfl, ?_, ?_⟩
  · rw [sp1]
    rw [List.length_map] at *
    omega
  · refine ⟨?_, h⟩
    rw [← al]
    exact Nat.le_trans tl (by decide)
end Mp.g

set_option Elab.async false
set_option linter.all false
set_option maxRecDepth 100000
set_option maxHeartbeats 1000000
namespace Mp.g
open PySem PySem.Spec L2 Mp
variable {Γ : Specs}
theorem mulok_n {i j : Nat} (hi : i ≤ 10 ^ 60) (hj : j ≤ 10 ^ 60) : MulOk (i : Int) (j : Int) := .inr (.inr ⟨Nat.lt_of_le_of_lt hi (by decide +kernel), Nat.lt_of_le_of_lt hj (by decide +kernel)⟩)
theorem any_its (its : List (Option Nat)) : (its.map itD).any truD = decide (0 < (wsh its).sum) := by
  induction its with
  | nil => rfl
  | cons o its ih =>
    rw [List.map_cons, List.any_cons, ih]
    show (truD (itD o) || _) = decide (0 < (o.getD 0 :: wsh its).sum)
    rw [List.sum_cons]
    cases o with
    | none =>
      show (false || _) = decide (0 < 0 + _)
      simp
    | some n =>
      show (((n : Int) != 0) || _) = decide (0 < n + _)
      by_cases hn : n = 0
      · subst hn
        simp
      · have e1 : ((n : Int) != 0) = true := by simpa using hn
        rw [e1, Bool.true_or, decide_eq_true (by omega)]
theorem flat_its (its : List (Option Nat)) : (its.map itD).all flatT = true := by
  rw [List.all_eq_true]
  intro d hd
  obtain ⟨o, _, rfl⟩ := List.mem_map.mp hd
  cases o <;> rfl
def sp_gcd_of : Spec := fun ds C P _ => ∃ a b : Nat, ds = [.int a, .int b] ∧ P (.int (Nat.gcd a b : Nat)) C
theorem p_gcd_of (ds C Q PX) (h : sp_gcd_of ds C Q PX) : wpSs Γ m_gcd_of (ro0 n_gcd_of ds) C (fnEn Q PX) := by
  obtain ⟨a, b, rfl, h⟩ := h
  unfold m_gcd_of
  rw [show ro0 n_gcd_of [.int a, .int b] = [some (.int a), some (.int b)] from rfl]
  simp only [wpSs, wpS, wpX, wpL, wpBo, wpO, wpTs, wpJ, wpI, plainX, boolX, noT, varW, List.getElem?_cons_zero, List.getElem?_cons_succ, List.set_cons_zero, List.set_cons_succ, cD, fnEn, view_int, view_bl, view_str, view_non, view_lst, view_tupl, view_ins, view_dct, view_scr, add_int, sub_int, mul_int, mod_int, div_int, idx_lst, idx_tup, wIf_t, wIf_f, lt_int, le_int, gt_int, ge_int, eq_int, ne_int, List.map_cons, List.map_nil, newW, setAll, wTg, lenD, sliD, strD, List.length_cons, List.length_nil]
  refine ⟨fun m ρ C' => C' = C ∧ ∃ x y : Nat, m = y ∧ Nat.gcd x y = Nat.gcd a b ∧ ρ = [some (.int x), some (.int y)], ⟨_, rfl, a, b, rfl, rfl, rfl⟩, ?_⟩
  rintro m ρ C' ⟨rfl, x, y, hm, hg, rfl⟩
  simp only [wpSs, wpS, wpX, wpL, wpBo, wpO, wpTs, wpJ, wpI, plainX, boolX, noT, varW, List.getElem?_cons_zero, List.getElem?_cons_succ, List.set_cons_zero, List.set_cons_succ, cD, fnEn, view_int, view_bl, view_str, view_non, view_lst, view_tupl, view_ins, view_dct, view_scr, add_int, sub_int, mul_int, mod_int, div_int, idx_lst, idx_tup, wIf_t, wIf_f, lt_int, le_int, gt_int, ge_int, eq_int, ne_int, List.map_cons, List.map_nil, newW, setAll, wTg, lenD, sliD, strD, List.length_cons, List.length_nil]
  cases e : decide ((0 : Int) < (y : Int)) with
  | true =>
    have e := of_decide_eq_true e
    simp only [wpSs, wpS, wpX, wpL, wpBo, wpO, wpTs, wpJ, wpI, plainX, boolX, noT, varW, List.getElem?_cons_zero, List.getElem?_cons_succ, List.set_cons_zero, List.set_cons_succ, cD, fnEn, view_int, view_bl, view_str, view_non, view_lst, view_tupl, view_ins, view_dct, view_scr, add_int, sub_int, mul_int, mod_int, div_int, idx_lst, idx_tup, wIf_t, wIf_f, lt_int, le_int, gt_int, ge_int, eq_int, ne_int, List.map_cons, List.map_nil, newW, setAll, wTg, lenD, sliD, strD, List.length_cons, List.length_nil]
    refine ⟨by omega, trivial, ?_⟩
    rw [fm_pos (by omega)]
    refine ⟨x % y, by rw [hm]; exact Nat.mod_lt _ (by omega), trivial, y, x % y, rfl, ?_, by rw [Int.natCast_emod]⟩
    rw [← hg, Nat.gcd_comm x y, Nat.gcd_rec y x, Nat.gcd_comm]
  | false =>
    have e := of_decide_eq_false e
    have : y = 0 := by omega
    subst this
    rw [Nat.gcd_zero_right] at hg
    subst hg
    exact h
def sp_Garden_can (c : Nat) : Spec := fun ds C P _ => ∃ t l p, ds = [.ins c [t, l, p]] ∧ P l C
theorem p_Garden_can {c_Garden : Nat} (ds C Q PX) (h : sp_Garden_can c_Garden ds C Q PX) : wpSs Γ (m_Garden_can c_Garden) (ro0 n_Garden_can ds) C (fnEn Q PX) := by
  obtain ⟨t, l, p, rfl, h⟩ := h
  unfold m_Garden_can
  rw [show ro0 n_Garden_can [.ins c_Garden [t, l, p]] = [some (.ins c_Garden [t, l, p])] from rfl]
  simp only [wpSs, wpS, wpX, wpL, wpBo, wpO, wpTs, wpJ, wpI, plainX, boolX, noT, varW, List.getElem?_cons_zero, List.getElem?_cons_succ, List.set_cons_zero, List.set_cons_succ, cD, fnEn, view_int, view_bl, view_str, view_non, view_lst, view_tupl, view_ins, view_dct, view_scr, add_int, sub_int, mul_int, mod_int, div_int, idx_lst, idx_tup, wIf_t, wIf_f, lt_int, le_int, gt_int, ge_int, eq_int, ne_int, List.map_cons, List.map_nil, newW, setAll, wTg, lenD, sliD, strD, List.length_cons, List.length_nil]
  exact ⟨rfl, h⟩
/-- the sum of the places of so many litres, a can apart -/
def sop (w : List Nat) (c first count : Nat) : Int := sm (fun i => (pl w (first + i * c) : Nat)) count
theorem sop_min {w : List Nat} {c first t k : Nat} (hs : 0 < w.sum) (ht : 0 < t) (hk : t * c = k * w.sum) (h1 : 1 ≤ first) (count : Nat) :
    sop w c first count = sm (fun a => ((count - a - 1) / t + 1 : Nat) * (pl w (first + a * c) : Nat) + (k * w.length : Nat) * (tri ((count - a - 1) / t + 1) : Nat)) (min t count) :=
  blk_min ht (fun i => by
    rw [Nat.add_mul, hk, ← Nat.add_assoc, pl_add hs (by omega), Int.natCast_add]) count
theorem tri_int (k : Nat) : ((k + 1 : Nat) : Int) * (((k + 1 : Nat) : Int) - 1) / 2 = (tri (k + 1) : Nat) := by
  unfold tri
  rw [Nat.add_sub_cancel, show (((k + 1 : Nat) : Int) - 1) = (k : Nat) by omega, ← Int.natCast_mul, Int.natCast_ediv]
  rfl
def sp_sum_of_places (c : Nat) : Spec := fun ds C P _ => ∃ t its, ∃ l first count : Nat, ds = [gard c t l its, .int first, .int count] ∧ okIts 9 its ∧ (1 ≤ l ∧ l ≤ 20) ∧ (0 < count → 0 < (wsh its).sum) ∧ (1 ≤ first ∧ first ≤ 10 ^ 40 ∧ count ≤ 10 ^ 40) ∧ P (.int (sop (wsh its) l first count)) C
theorem p_sum_of_places {c_Garden f_Garden_beds f_Garden_can f_gcd_of f_place_of_litre f_up_to : Nat} (g1 : Γ f_Garden_beds = sp_Garden_beds c_Garden) (g2 : Γ f_Garden_can = sp_Garden_can c_Garden) (g3 : Γ f_gcd_of = sp_gcd_of)
    (g4 : Γ f_place_of_litre = sp_place_of_litre c_Garden) (g5 : Γ f_up_to = sp_up_to c_Garden) (ds C Q PX) (h : sp_sum_of_places c_Garden ds C Q PX) :
    wpSs Γ (m_sum_of_places c_Garden f_Garden_beds f_Garden_can f_gcd_of f_place_of_litre f_up_to) (ro0 n_sum_of_places ds) C (fnEn Q PX) := by
  obtain ⟨t, its, l, first, count, rfl, ok, ⟨l1, l2⟩, hs, ⟨f1, f2, c2⟩, h⟩ := h
  unfold m_sum_of_places
  rw [show ro0 n_sum_of_places [gard c_Garden t l its, .int first, .int count] = [some (gard c_Garden t l its), some (.int first), some (.int count), none, none, none, none, none, none] from rfl]
  simp only [wpSs, wpS, wpX, wpL, wpBo, wpO, wpTs, wpJ, wpI, plainX, boolX, noT, varW, List.getElem?_cons_zero, List.getElem?_cons_succ, List.set_cons_zero, List.set_cons_succ, cD, fnEn, view_int, view_bl, view_str, view_non, view_lst, view_tupl, view_ins, view_dct, view_scr, add_int, sub_int, mul_int, mod_int, div_int, idx_lst, idx_tup, wIf_t, wIf_f, lt_int, le_int, gt_int, ge_int, eq_int, ne_int, List.map_cons, List.map_nil, newW, setAll, wTg, lenD, sliD, strD, List.length_cons, List.length_nil, g1, g2, g3, g4, g5]
  cases e : decide ((count : Int) = 0) with
  | true =>
    have e := of_decide_eq_true e
    have : count = 0 := by omega
    subst this
    exact h
  | false =>
    have e := of_decide_eq_false e
    have hs := hs (by omega)
    have h0 : 0 < (wsh its).length := by rw [wsh_len]; exact ok.1
    have h12 : (wsh its).length ≤ 12 := by rw [wsh_len]; exact ok.2.1
    have hs2 := wsh_sum_le ok
    have hlen : (its.map itD).length = (wsh its).length := by rw [List.length_map, wsh_len]
    simp only [wpSs, wpS, wpX, wpL, wpBo, wpO, wpTs, wpJ, wpI, plainX, boolX, noT, varW, List.getElem?_cons_zero, List.getElem?_cons_succ, List.set_cons_zero, List.set_cons_succ, cD, fnEn, view_int, view_bl, view_str, view_non, view_lst, view_tupl, view_ins, view_dct, view_scr, add_int, sub_int, mul_int, mod_int, div_int, idx_lst, idx_tup, wIf_t, wIf_f, lt_int, le_int, gt_int, ge_int, eq_int, ne_int, List.map_cons, List.map_nil, newW, setAll, wTg, lenD, sliD, strD, List.length_cons, List.length_nil]
    refine ⟨rfl, t, .int l, .tup (its.map itD), rfl, ?_⟩
    simp only [wpSs, wpS, wpX, wpL, wpBo, wpO, wpTs, wpJ, wpI, plainX, boolX, noT, varW, List.getElem?_cons_zero, List.getElem?_cons_succ, List.set_cons_zero, List.set_cons_succ, cD, fnEn, view_int, view_bl, view_str, view_non, view_lst, view_tupl, view_ins, view_dct, view_scr, add_int, sub_int, mul_int, mod_int, div_int, idx_lst, idx_tup, wIf_t, wIf_f, lt_int, le_int, gt_int, ge_int, eq_int, ne_int, List.map_cons, List.map_nil, newW, setAll, wTg, lenD, sliD, strD, List.length_cons, List.length_nil]
    refine ⟨_, rfl, ?_⟩
    simp only [wpSs, wpS, wpX, wpL, wpBo, wpO, wpTs, wpJ, wpI, plainX, boolX, noT, varW, List.getElem?_cons_zero, List.getElem?_cons_succ, List.set_cons_zero, List.set_cons_succ, cD, fnEn, view_int, view_bl, view_str, view_non, view_lst, view_tupl, view_ins, view_dct, view_scr, add_int, sub_int, mul_int, mod_int, div_int, idx_lst, idx_tup, wIf_t, wIf_f, lt_int, le_int, gt_int, ge_int, eq_int, ne_int, List.map_cons, List.map_nil, newW, setAll, wTg, lenD, sliD, strD, List.length_cons, List.length_nil]
    rw [hlen]
    refine ⟨t, l, its, _, rfl, ok, by omega, ?_⟩
    have hU : U (wsh its) (((wsh its).length : Nat) : Int).toNat = (wsh its).sum := by
      have := U_at (w := wsh its) 0 (wsh its).length h0 (Nat.le_refl _)
      rw [Nat.zero_mul, Nat.zero_add, Nat.zero_mul, Nat.zero_add, take_len] at this
      rw [Int.toNat_natCast]
      exact this
    rw [hU]
    simp only [wpSs, wpS, wpX, wpL, wpBo, wpO, wpTs, wpJ, wpI, plainX, boolX, noT, varW, List.getElem?_cons_zero, List.getElem?_cons_succ, List.set_cons_zero, List.set_cons_succ, cD, fnEn, view_int, view_bl, view_str, view_non, view_lst, view_tupl, view_ins, view_dct, view_scr, add_int, sub_int, mul_int, mod_int, div_int, idx_lst, idx_tup, wIf_t, wIf_f, lt_int, le_int, gt_int, ge_int, eq_int, ne_int, List.map_cons, List.map_nil, newW, setAll, wTg, lenD, sliD, strD, List.length_cons, List.length_nil]
    refine ⟨rfl, t, .int l, .tup (its.map itD), rfl, ?_⟩
    refine ⟨(wsh its).sum, l, rfl, ?_⟩
    obtain ⟨s', e1⟩ := Nat.gcd_dvd_left (wsh its).sum l
    obtain ⟨l', e2⟩ := Nat.gcd_dvd_right (wsh its).sum l
    have hg : 0 < Nat.gcd (wsh its).sum l := Nat.gcd_pos_of_pos_left _ hs
    generalize hgg : Nat.gcd (wsh its).sum l = g at *
    simp only [wpSs, wpS, wpX, wpL, wpBo, wpO, wpTs, wpJ, wpI, plainX, boolX, noT, varW, List.getElem?_cons_zero, List.getElem?_cons_succ, List.set_cons_zero, List.set_cons_succ, cD, fnEn, view_int, view_bl, view_str, view_non, view_lst, view_tupl, view_ins, view_dct, view_scr, add_int, sub_int, mul_int, mod_int, div_int, idx_lst, idx_tup, wIf_t, wIf_f, lt_int, le_int, gt_int, ge_int, eq_int, ne_int, List.map_cons, List.map_nil, newW, setAll, wTg, lenD, sliD, strD, List.length_cons, List.length_nil]
    refine ⟨.inr ⟨by omega, Int.lt_of_le_of_lt (show (g : Int) ≤ 108 by have := Nat.le_of_dvd hs ⟨s', e1⟩; omega) (by decide +kernel)⟩, ?_⟩
    have et : fd ((wsh its).sum : Nat) (g : Int) = (s' : Nat) := by
      rw [fd_pos (by omega), ← Int.natCast_ediv, e1, Nat.mul_div_cancel_left _ hg]
    have hs' : 0 < s' := Nat.pos_of_ne_zero fun z => by rw [z, Nat.mul_zero] at e1; omega
    have hs'' : s' ≤ 108 := Nat.le_trans (Nat.le_mul_of_pos_left s' hg) (by omega)
    have ek : s' * l = l' * (wsh its).sum := by
      rw [e1]
      conv => lhs; rw [e2]
      rw [Nat.mul_left_comm, Nat.mul_left_comm l', Nat.mul_comm s' l']
    rw [et]
    refine ⟨rfl, t, .int l, .tup (its.map itD), rfl, ?_⟩
    simp only [wpSs, wpS, wpX, wpL, wpBo, wpO, wpTs, wpJ, wpI, plainX, boolX, noT, varW, List.getElem?_cons_zero, List.getElem?_cons_succ, List.set_cons_zero, List.set_cons_succ, cD, fnEn, view_int, view_bl, view_str, view_non, view_lst, view_tupl, view_ins, view_dct, view_scr, add_int, sub_int, mul_int, mod_int, div_int, idx_lst, idx_tup, wIf_t, wIf_f, lt_int, le_int, gt_int, ge_int, eq_int, ne_int, List.map_cons, List.map_nil, newW, setAll, wTg, lenD, sliD, strD, List.length_cons, List.length_nil]
    refine ⟨mulok_r ⟨by omega, by omega⟩, .inr ⟨by omega, Int.lt_of_le_of_lt (show ((wsh its).sum : Int) ≤ 108 by omega) (by decide +kernel)⟩, ?_⟩
    have ea : fd ((s' : Int) * (l : Int)) ((wsh its).sum : Nat) = (l' : Nat) := by
      rw [fd_pos (by omega), ← Int.natCast_mul, ek, ← Int.natCast_ediv, Nat.mul_div_cancel _ hs]
    rw [ea]
    have hl'2 : l' ≤ 20 := Nat.le_trans (Nat.le_mul_of_pos_left l' hg) (by omega)
    refine ⟨rfl, t, .int l, .tup (its.map itD), rfl, ?_⟩
    simp only [wpSs, wpS, wpX, wpL, wpBo, wpO, wpTs, wpJ, wpI, plainX, boolX, noT, varW, List.getElem?_cons_zero, List.getElem?_cons_succ, List.set_cons_zero, List.set_cons_succ, cD, fnEn, view_int, view_bl, view_str, view_non, view_lst, view_tupl, view_ins, view_dct, view_scr, add_int, sub_int, mul_int, mod_int, div_int, idx_lst, idx_tup, wIf_t, wIf_f, lt_int, le_int, gt_int, ge_int, eq_int, ne_int, List.map_cons, List.map_nil, newW, setAll, wTg, lenD, sliD, strD, List.length_cons, List.length_nil]
    refine ⟨_, rfl, ?_⟩
    simp only [wpSs, wpS, wpX, wpL, wpBo, wpO, wpTs, wpJ, wpI, plainX, boolX, noT, varW, List.getElem?_cons_zero, List.getElem?_cons_succ, List.set_cons_zero, List.set_cons_succ, cD, fnEn, view_int, view_bl, view_str, view_non, view_lst, view_tupl, view_ins, view_dct, view_scr, add_int, sub_int, mul_int, mod_int, div_int, idx_lst, idx_tup, wIf_t, wIf_f, lt_int, le_int, gt_int, ge_int, eq_int, ne_int, List.map_cons, List.map_nil, newW, setAll, wTg, lenD, sliD, strD, List.length_cons, List.length_nil]
    rw [hlen]
    refine ⟨mulok_r ⟨by omega, by omega⟩, .inl ⟨_, _, rfl, ?_⟩⟩
    have hA : l' * (wsh its).length ≤ 20 * 12 := Nat.mul_le_mul hl'2 h12
    have hmin : min (s' : Int) (count : Int) = ((min s' count : Nat) : Int) := by omega
    simp only [wpSs, wpS, wpX, wpL, wpBo, wpO, wpTs, wpJ, wpI, plainX, boolX, noT, varW, List.getElem?_cons_zero, List.getElem?_cons_succ, List.set_cons_zero, List.set_cons_succ, cD, fnEn, view_int, view_bl, view_str, view_non, view_lst, view_tupl, view_ins, view_dct, view_scr, add_int, sub_int, mul_int, mod_int, div_int, idx_lst, idx_tup, wIf_t, wIf_f, lt_int, le_int, gt_int, ge_int, eq_int, ne_int, List.map_cons, List.map_nil, newW, setAll, wTg, lenD, sliD, strD, List.length_cons, List.length_nil]
    rw [hmin]
    simp only [rngD]
    rw [rngL_map]
    rw [Int.toNat_natCast]
    rw [sop_min hs hs' ek f1] at h
    generalize hF : (fun a => (((count - a - 1) / s' + 1 : Nat) : Int) * (pl (wsh its) (first + a * l) : Nat) + (l' * (wsh its).length : Nat) * (tri ((count - a - 1) / s' + 1) : Nat)) = F at h
    refine for_inv0 (fun i ρ C' => C' = C ∧ i ≤ min s' count ∧ ∃ y z, ρ = [some (gard c_Garden t l its), some (.int first), some (.int count), some (.int ((wsh its).sum : Nat)), some (.int s'), some (.int (l' * (wsh its).length)), some (.int (sm F i)), y, z]) ⟨rfl, Nat.zero_le _, _, _, rfl⟩ ?_ ?_
    · rintro i d ρ C' hd ⟨rfl, hi, y, z, rfl⟩ E' hE hn hb
      rw [List.getElem?_map] at hd
      obtain ⟨k, hk, rfl⟩ := Option.map_eq_some_iff.mp hd
      have hki : i < min s' count := by
        have := (List.getElem?_eq_some_iff.mp hk).1
        simpa using this
      rw [List.getElem?_range hki] at hk
      cases hk
      simp only [wpSs, wpS, wpX, wpL, wpBo, wpO, wpTs, wpJ, wpI, plainX, boolX, noT, varW, List.getElem?_cons_zero, List.getElem?_cons_succ, List.set_cons_zero, List.set_cons_succ, cD, fnEn, view_int, view_bl, view_str, view_non, view_lst, view_tupl, view_ins, view_dct, view_scr, add_int, sub_int, mul_int, mod_int, div_int, idx_lst, idx_tup, wIf_t, wIf_f, lt_int, le_int, gt_int, ge_int, eq_int, ne_int, List.map_cons, List.map_nil, newW, setAll, wTg, lenD, sliD, strD, List.length_cons, List.length_nil, Int.zero_add]
      refine ⟨.inr ⟨by omega, Int.lt_of_le_of_lt (show (s' : Int) ≤ 108 by omega) (by decide +kernel)⟩, ?_⟩
      have eo : fd ((count : Int) - (i : Int) - 1) (s' : Int) + 1 = (((count - i - 1) / s' + 1 : Nat) : Int) := by
        rw [fd_pos (by omega), show (count : Int) - (i : Int) - 1 = ((count - i - 1 : Nat) : Int) by omega, ← Int.natCast_ediv]
        rfl
      rw [eo]
      have ho : (count - i - 1) / s' + 1 ≤ 10 ^ 40 := by
        have := Nat.div_le_self (count - i - 1) s'
        omega
      have hF' : F i = (((count - i - 1) / s' + 1 : Nat) : Int) * (pl (wsh its) (first + i * l) : Nat) + (l' * (wsh its).length : Nat) * (tri ((count - i - 1) / s' + 1) : Nat) := by rw [← hF]
      have hti := tri_int ((count - i - 1) / s')
      have o1 : 1 ≤ (count - i - 1) / s' + 1 := Nat.succ_le_succ (Nat.zero_le _)
      generalize (count - i - 1) / s' + 1 = o at *
      refine ⟨rfl, t, .int l, .tup (its.map itD), rfl, ?_⟩
      simp only [wpSs, wpS, wpX, wpL, wpBo, wpO, wpTs, wpJ, wpI, plainX, boolX, noT, varW, List.getElem?_cons_zero, List.getElem?_cons_succ, List.set_cons_zero, List.set_cons_succ, cD, fnEn, view_int, view_bl, view_str, view_non, view_lst, view_tupl, view_ins, view_dct, view_scr, add_int, sub_int, mul_int, mod_int, div_int, idx_lst, idx_tup, wIf_t, wIf_f, lt_int, le_int, gt_int, ge_int, eq_int, ne_int, List.map_cons, List.map_nil, newW, setAll, wTg, lenD, sliD, strD, List.length_cons, List.length_nil]
      refine ⟨mulok_r ⟨by omega, by omega⟩, t, l, its, first + i * l, by rw [Int.natCast_add, Int.natCast_mul]; rfl, ok, hs, by omega, ?_⟩
      have hil : i * l ≤ 108 * 20 := Nat.mul_le_mul (by omega) l2
      have hpl : pl (wsh its) (first + i * l) ≤ 10 ^ 43 := by
        refine Nat.le_trans (pl_le hs (by omega)) (Nat.le_trans (Nat.mul_le_mul (show first + i * l ≤ 10 ^ 40 + 108 * 20 by omega) h12) (by decide +kernel))
      simp only [wpSs, wpS, wpX, wpL, wpBo, wpO, wpTs, wpJ, wpI, plainX, boolX, noT, varW, List.getElem?_cons_zero, List.getElem?_cons_succ, List.set_cons_zero, List.set_cons_succ, cD, fnEn, view_int, view_bl, view_str, view_non, view_lst, view_tupl, view_ins, view_dct, view_scr, add_int, sub_int, mul_int, mod_int, div_int, idx_lst, idx_tup, wIf_t, wIf_f, lt_int, le_int, gt_int, ge_int, eq_int, ne_int, List.map_cons, List.map_nil, newW, setAll, wTg, lenD, sliD, strD, List.length_cons, List.length_nil]
      refine ⟨mulok_n (Nat.le_trans ho (by decide +kernel)) (Nat.le_trans hpl (by decide +kernel)), ?_⟩
      rw [show (o : Int) - 1 = ((o - 1 : Nat) : Int) by omega] at hti ⊢
      refine ⟨mulok_n (Nat.le_trans ho (by decide +kernel)) (Nat.le_trans (Nat.sub_le _ _) (Nat.le_trans ho (by decide +kernel))), .inr ⟨by decide, Int.lt_trans (show (2 : Int) < 2 ^ 200 by decide) (by decide)⟩, ?_⟩
      rw [fd_pos (by decide), hti]
      refine ⟨mulok_l ⟨by omega, by omega⟩, _, _, rfl, rfl, (hn _ _ ⟨rfl, by omega, some (.int i), some (.int o), ?_⟩).1⟩
      rw [sm, hF', Int.natCast_mul]
    · rintro ρ C' ⟨rfl, hi, y, z, rfl⟩
      rw [List.length_map, List.length_range]
      simp only [wpSs, wpS, wpX, wpL, wpBo, wpO, wpTs, wpJ, wpI, plainX, boolX, noT, varW, List.getElem?_cons_zero, List.getElem?_cons_succ, List.set_cons_zero, List.set_cons_succ, cD, fnEn, view_int, view_bl, view_str, view_non, view_lst, view_tupl, view_ins, view_dct, view_scr, add_int, sub_int, mul_int, mod_int, div_int, idx_lst, idx_tup, wIf_t, wIf_f, lt_int, le_int, gt_int, ge_int, eq_int, ne_int, List.map_cons, List.map_nil, newW, setAll, wTg, lenD, sliD, strD, List.length_cons, List.length_nil]
      exact h
end Mp.g

set_option Elab.async false
set_option linter.all false
set_option maxRecDepth 100000
set_option maxHeartbeats 1000000
namespace Mp.g
open PySem PySem.Spec L2 Mp
variable {Γ : Specs}
theorem view_refI {C : Cs} {a : Addr} {c : Nat} {ds : List D} (h : C a = some (.ins c ds)) : view C (.ref a) = .ins c ds := by
  unfold view
  dsimp only
  rw [h]
theorem U_le {w : List Nat} (h0 : 0 < w.length) (h : ∀ n ∈ w, n ≤ 9) : ∀ p, U w p ≤ 9 * p
  | 0 => by rw [U_zero]; exact Nat.le_refl _
  | p + 1 => by
    rw [U_succ p h0]
    have := U_le h0 h p
    have := h _ (List.getElem_mem (Nat.mod_lt p h0))
    omega
/-- a gap's litres -/
def mny (w : List Nat) (L R : Nat) : Nat := U w (R - 1) - U w L
abbrev gapD (cg c : Nat) (t : D) (l : Nat) (its : List (Option Nat)) (L R : Nat) : D := .ins cg [gard c t l its, .int L, .int R, .int (U (wsh its) L : Nat), .int (mny (wsh its) L R : Nat)]
structure GapOk (its : List (Option Nat)) (l L R : Nat) : Prop where
  its : okIts 9 its
  l1 : 1 ≤ l
  l2 : l ≤ 20
  lr : L < R
  r2 : R ≤ 10 ^ 32
section
variable {its : List (Option Nat)} {l L R : Nat}
theorem GapOk.len0 (k : GapOk its l L R) : 0 < (wsh its).length := by rw [wsh_len]; exact k.its.1
theorem GapOk.len12 (k : GapOk its l L R) : (wsh its).length ≤ 12 := by rw [wsh_len]; exact k.its.2.1
theorem GapOk.UL (k : GapOk its l L R) : U (wsh its) L ≤ 10 ^ 34 := by
  have := U_le k.len0 (wsh_le k.its) L
  have := k.lr
  have := k.r2
  omega
theorem GapOk.UR (k : GapOk its l L R) : U (wsh its) (R - 1) ≤ 10 ^ 34 := by
  have := U_le k.len0 (wsh_le k.its) (R - 1)
  have := k.r2
  omega
theorem GapOk.add (k : GapOk its l L R) : U (wsh its) L + mny (wsh its) L R = U (wsh its) (R - 1) := by
  have := U_mono k.len0 (show L ≤ R - 1 by have := k.lr; omega)
  unfold mny
  omega
theorem GapOk.sum (k : GapOk its l L R) (h : 0 < mny (wsh its) L R) : 0 < (wsh its).sum := by
  rcases Nat.eq_zero_or_pos (wsh its).sum with z | z
  · have hz : ∀ p, U (wsh its) p = 0 := fun p => by
      unfold U
      have : ((wsh its).take (p % (wsh its).length)).sum ≤ (wsh its).sum := by
        conv => rhs; rw [← List.take_append_drop (p % (wsh its).length) (wsh its), List.sum_append]
        exact Nat.le_add_right _ _
      rw [z]
      omega
    unfold mny at h
    rw [hz] at h
    omega
  · exact z
end
def sp_Gap_init (cg c : Nat) : Spec := fun ds C P _ => ∃ s t its, ∃ l L R : Nat, ds = [.ref s, gard c t l its, .int L, .int R] ∧ GapOk its l L R ∧ C s = some (.ins cg []) ∧
  P .non (cset C s (.ins cg [gard c t l its, .int L, .int R, .int (U (wsh its) L : Nat), .int (mny (wsh its) L R : Nat)]))
theorem p_Gap_init {c_Gap c_Garden f_up_to : Nat} (g1 : Γ f_up_to = sp_up_to c_Garden) (ds C Q PX) (h : sp_Gap_init c_Gap c_Garden ds C Q PX) : wpSs Γ (m_Gap_init c_Gap f_up_to) (ro0 n_Gap_init ds) C (fnEn Q PX) := by
  obtain ⟨s, t, its, l, L, R, rfl, k, hs, h⟩ := h
  unfold m_Gap_init
  rw [show ro0 n_Gap_init [.ref s, gard c_Garden t l its, .int L, .int R] = [some (.ref s), some (gard c_Garden t l its), some (.int L), some (.int R)] from rfl]
  simp only [wpSs, wpS, wpX, wpL, wpBo, wpO, wpTs, wpJ, wpI, plainX, boolX, noT, varW, List.getElem?_cons_zero, List.getElem?_cons_succ, List.set_cons_zero, List.set_cons_succ, cD, fnEn, view_int, view_bl, view_str, view_non, view_lst, view_tupl, view_ins, view_dct, view_scr, add_int, sub_int, mul_int, mod_int, div_int, idx_lst, idx_tup, wIf_t, wIf_f, lt_int, le_int, gt_int, ge_int, eq_int, ne_int, List.map_cons, List.map_nil, newW, setAll, wTg, lenD, sliD, strD, List.length_cons, List.length_nil, g1]
  refine setFD_ins (ds := []) hs (Nat.zero_le _) ?_
  refine setFD_ins (ds := [gard c_Garden t l its]) cset_same (by show 1 ≤ 1; decide) ?_
  rw [cset_cset]
  refine setFD_ins (ds := [gard c_Garden t l its, .int L]) cset_same (by show 2 ≤ 2; decide) ?_
  rw [cset_cset]
  refine ⟨t, l, its, L, rfl, k.its, by omega, ?_⟩
  refine setFD_ins (ds := [gard c_Garden t l its, .int L, .int R]) cset_same (by show 3 ≤ 3; decide) ?_
  rw [cset_cset]
  have lr := k.lr
  refine ⟨t, l, its, (R : Int) - 1, rfl, k.its, by omega, ?_⟩
  simp only [wpSs, wpS, wpX, wpL, wpBo, wpO, wpTs, wpJ, wpI, plainX, boolX, noT, varW, List.getElem?_cons_zero, List.getElem?_cons_succ, List.set_cons_zero, List.set_cons_succ, cD, fnEn, view_int, view_bl, view_str, view_non, view_lst, view_tupl, view_ins, view_dct, view_scr, add_int, sub_int, mul_int, mod_int, div_int, idx_lst, idx_tup, wIf_t, wIf_f, lt_int, le_int, gt_int, ge_int, eq_int, ne_int, List.map_cons, List.map_nil, newW, setAll, wTg, lenD, sliD, strD, List.length_cons, List.length_nil, view_refI (cset_same)]
  refine ⟨rfl, ?_⟩
  simp only [wpSs, wpS, wpX, wpL, wpBo, wpO, wpTs, wpJ, wpI, plainX, boolX, noT, varW, List.getElem?_cons_zero, List.getElem?_cons_succ, List.set_cons_zero, List.set_cons_succ, cD, fnEn, view_int, view_bl, view_str, view_non, view_lst, view_tupl, view_ins, view_dct, view_scr, add_int, sub_int, mul_int, mod_int, div_int, idx_lst, idx_tup, wIf_t, wIf_f, lt_int, le_int, gt_int, ge_int, eq_int, ne_int, List.map_cons, List.map_nil, newW, setAll, wTg, lenD, sliD, strD, List.length_cons, List.length_nil]
  refine setFD_ins (ds := [gard c_Garden t l its, .int L, .int R, .int (U (wsh its) L : Nat)]) cset_same (by show 4 ≤ 4; decide) ?_
  rw [cset_cset]
  have e : ((U (wsh its) ((R : Int) - 1).toNat : Nat) : Int) - ((U (wsh its) (L : Int).toNat : Nat) : Int) = (mny (wsh its) L R : Nat) := by
    rw [show ((R : Int) - 1).toNat = R - 1 by omega, Int.toNat_natCast]
    have := k.add
    omega
  have e2 : (U (wsh its) (L : Int).toNat : Nat) = U (wsh its) L := by rw [Int.toNat_natCast]
  rw [e2] at e
  rw [← e] at h
  exact h
/-- the distances of a gap's litres from its ends -/
def pL (w : List Nat) (L a : Nat) : Int := (pl w (U w L + a) : Nat) - (L : Int)
def pR (w : List Nat) (R b : Nat) : Int := (R : Int) - (pl w (U w (R - 1) + 1 - b) : Nat)
theorem neg_cdv {A c : Nat} (hc : 0 < c) : -(fd (-(A : Int)) (c : Int)) = (cdv A c : Nat) := by
  rw [fd_pos (by omega)]
  have h1 := cdv_ge (A := A) hc
  have h2 : cdv A c * c < A + c := by
    unfold cdv
    have := Nat.div_mul_le_self (A + c - 1) c
    omega
  have e : -(A : Int) = ((cdv A c * c - A : Nat) : Int) + -((cdv A c : Nat) : Int) * (c : Int) := by
    rw [Int.neg_mul, ← Int.natCast_mul]
    omega
  rw [e, Int.add_mul_ediv_right _ _ (by omega), ← Int.natCast_ediv, Nat.div_eq_of_lt (by omega)]
  simp
theorem cdv_le {A c : Nat} (hc : 0 < c) : cdv A c ≤ A := by
  unfold cdv
  rw [Nat.div_le_iff_le_mul_add_pred hc]
  have := Nat.mul_le_mul_right A hc
  omega
def sp_from_left (cg c : Nat) : Spec := fun ds C P _ => ∃ t its, ∃ l L R A : Nat, ds = [gapD cg c t l its L R, .int A] ∧ GapOk its l L R ∧ A ≤ mny (wsh its) L R ∧ P (.int (2 * walks (pL (wsh its) L) l A)) C
theorem p_Gap_from_left {c_Gap c_Garden f_Garden_can f_sum_of_places : Nat} (g1 : Γ f_Garden_can = sp_Garden_can c_Garden) (g2 : Γ f_sum_of_places = sp_sum_of_places c_Garden) (ds C Q PX) (h : sp_from_left c_Gap c_Garden ds C Q PX) :
    wpSs Γ (m_Gap_from_left c_Gap c_Garden f_Garden_can f_sum_of_places) (ro0 n_Gap_from_left ds) C (fnEn Q PX) := by
  obtain ⟨t, its, l, L, R, A, rfl, k, hA, h⟩ := h
  unfold m_Gap_from_left
  rw [show ro0 n_Gap_from_left [gapD c_Gap c_Garden t l its L R, .int A] = [some (gapD c_Gap c_Garden t l its L R), some (.int A), none, none] from rfl]
  have l1 := k.l1
  have l2 := k.l2
  simp only [wpSs, wpS, wpX, wpL, wpBo, wpO, wpTs, wpJ, wpI, plainX, boolX, noT, varW, List.getElem?_cons_zero, List.getElem?_cons_succ, List.set_cons_zero, List.set_cons_succ, cD, fnEn, view_int, view_bl, view_str, view_non, view_lst, view_tupl, view_ins, view_dct, view_scr, add_int, sub_int, mul_int, mod_int, div_int, idx_lst, idx_tup, wIf_t, wIf_f, lt_int, le_int, gt_int, ge_int, eq_int, ne_int, List.map_cons, List.map_nil, newW, setAll, wTg, lenD, sliD, strD, List.length_cons, List.length_nil, g1, g2, negD, fldD, insD]
  refine ⟨trivial, trivial, t, .int l, .tup (its.map itD), rfl, ?_⟩
  simp only [wpSs, wpS, wpX, wpL, wpBo, wpO, wpTs, wpJ, wpI, plainX, boolX, noT, varW, List.getElem?_cons_zero, List.getElem?_cons_succ, List.set_cons_zero, List.set_cons_succ, cD, fnEn, view_int, view_bl, view_str, view_non, view_lst, view_tupl, view_ins, view_dct, view_scr, add_int, sub_int, mul_int, mod_int, div_int, idx_lst, idx_tup, wIf_t, wIf_f, lt_int, le_int, gt_int, ge_int, eq_int, ne_int, List.map_cons, List.map_nil, newW, setAll, wTg, lenD, sliD, strD, List.length_cons, List.length_nil]
  refine ⟨.inr ⟨by omega, Int.lt_of_le_of_lt (show (l : Int) ≤ 20 by omega) (by decide +kernel)⟩, ?_⟩
  rw [neg_cdv (by omega)]
  refine ⟨trivial, trivial, trivial, t, .int l, .tup (its.map itD), rfl, ?_⟩
  simp only [wpSs, wpS, wpX, wpL, wpBo, wpO, wpTs, wpJ, wpI, plainX, boolX, noT, varW, List.getElem?_cons_zero, List.getElem?_cons_succ, List.set_cons_zero, List.set_cons_succ, cD, fnEn, view_int, view_bl, view_str, view_non, view_lst, view_tupl, view_ins, view_dct, view_scr, add_int, sub_int, mul_int, mod_int, div_int, idx_lst, idx_tup, wIf_t, wIf_f, lt_int, le_int, gt_int, ge_int, eq_int, ne_int, List.map_cons, List.map_nil, newW, setAll, wTg, lenD, sliD, strD, List.length_cons, List.length_nil]
  have hAU := k.add
  have hUR := k.UR
  have hcA := cdv_le (A := A) (c := l) (by omega)
  have hclt : cdv A l * l < A + l := by
    unfold cdv
    have := Nat.div_mul_le_self (A + l - 1) l
    omega
  have ef : ((U (wsh its) L : Nat) : Int) + (A : Int) - ((cdv A l : Nat) - 1) * (l : Int) = ((U (wsh its) L + A + l - cdv A l * l : Nat) : Int) := by
    rw [Int.sub_mul, Int.one_mul, ← Int.natCast_mul]
    omega
  rw [ef]
  refine ⟨mulok_r ⟨by omega, by omega⟩, trivial, t, its, l, U (wsh its) L + A + l - cdv A l * l, cdv A l, rfl, k.its, ⟨l1, l2⟩, fun hp => k.sum ?_, ⟨by omega, by omega, by omega⟩, ?_⟩
  · have : 0 < A := by
      rcases Nat.eq_zero_or_pos A with z | z
      · subst z
        rw [cdv_zero (by omega)] at hp
        exact absurd hp (Nat.lt_irrefl 0)
      · exact z
    omega
  have hL : L ≤ 10 ^ 32 := by have := k.lr; have := k.r2; omega
  refine ⟨trivial, ?_⟩
  simp only [wpSs, wpS, wpX, wpL, wpBo, wpO, wpTs, wpJ, wpI, plainX, boolX, noT, varW, List.getElem?_cons_zero, List.getElem?_cons_succ, List.set_cons_zero, List.set_cons_succ, cD, fnEn, view_int, view_bl, view_str, view_non, view_lst, view_tupl, view_ins, view_dct, view_scr, add_int, sub_int, mul_int, mod_int, div_int, idx_lst, idx_tup, wIf_t, wIf_f, lt_int, le_int, gt_int, ge_int, eq_int, ne_int, List.map_cons, List.map_nil, newW, setAll, wTg, lenD, sliD, strD, List.length_cons, List.length_nil]
  refine ⟨mulok_n (Nat.le_trans (show cdv A l ≤ 10 ^ 34 by omega) (by decide +kernel)) (Nat.le_trans hL (by decide +kernel)), mulok_l ⟨by decide, by decide⟩, ?_⟩
  have e : sop (wsh its) l (U (wsh its) L + A + l - cdv A l * l) (cdv A l) - (cdv A l : Nat) * (L : Int) = walks (pL (wsh its) L) l A := by
    unfold sop walks pL
    rw [sm_sub, sm_const, sm_rev]
    congr 1
    refine sm_congr fun i hi => ?_
    have h1 := cdv_lt (A := A) (c := l) (by omega) hi
    congr 2
    have e3 : (cdv A l - 1 - i) * l = cdv A l * l - l - i * l := by
      rw [Nat.sub_mul, Nat.sub_mul, Nat.one_mul]
    have h4 : (i + 1) * l ≤ cdv A l * l := Nat.mul_le_mul_right l hi
    rw [Nat.add_mul, Nat.one_mul] at h4
    rw [e3]
    omega
  rw [e]
  exact h
def sp_from_right (cg c : Nat) : Spec := fun ds C P _ => ∃ t its, ∃ l L R B : Nat, ds = [gapD cg c t l its L R, .int B] ∧ GapOk its l L R ∧ B ≤ mny (wsh its) L R ∧ P (.int (2 * walks (pR (wsh its) R) l B)) C
theorem p_Gap_from_right {c_Gap c_Garden f_Garden_can f_sum_of_places : Nat} (g1 : Γ f_Garden_can = sp_Garden_can c_Garden) (g2 : Γ f_sum_of_places = sp_sum_of_places c_Garden) (ds C Q PX) (h : sp_from_right c_Gap c_Garden ds C Q PX) :
    wpSs Γ (m_Gap_from_right c_Gap c_Garden f_Garden_can f_sum_of_places) (ro0 n_Gap_from_right ds) C (fnEn Q PX) := by
  obtain ⟨t, its, l, L, R, B, rfl, k, hB, h⟩ := h
  unfold m_Gap_from_right
  rw [show ro0 n_Gap_from_right [gapD c_Gap c_Garden t l its L R, .int B] = [some (gapD c_Gap c_Garden t l its L R), some (.int B), none, none] from rfl]
  have l1 := k.l1
  have l2 := k.l2
  simp only [wpSs, wpS, wpX, wpL, wpBo, wpO, wpTs, wpJ, wpI, plainX, boolX, noT, varW, List.getElem?_cons_zero, List.getElem?_cons_succ, List.set_cons_zero, List.set_cons_succ, cD, fnEn, view_int, view_bl, view_str, view_non, view_lst, view_tupl, view_ins, view_dct, view_scr, add_int, sub_int, mul_int, mod_int, div_int, idx_lst, idx_tup, wIf_t, wIf_f, lt_int, le_int, gt_int, ge_int, eq_int, ne_int, List.map_cons, List.map_nil, newW, setAll, wTg, lenD, sliD, strD, List.length_cons, List.length_nil, g1, g2, negD, fldD, insD]
  refine ⟨trivial, trivial, t, .int l, .tup (its.map itD), rfl, ?_⟩
  simp only [wpSs, wpS, wpX, wpL, wpBo, wpO, wpTs, wpJ, wpI, plainX, boolX, noT, varW, List.getElem?_cons_zero, List.getElem?_cons_succ, List.set_cons_zero, List.set_cons_succ, cD, fnEn, view_int, view_bl, view_str, view_non, view_lst, view_tupl, view_ins, view_dct, view_scr, add_int, sub_int, mul_int, mod_int, div_int, idx_lst, idx_tup, wIf_t, wIf_f, lt_int, le_int, gt_int, ge_int, eq_int, ne_int, List.map_cons, List.map_nil, newW, setAll, wTg, lenD, sliD, strD, List.length_cons, List.length_nil]
  refine ⟨.inr ⟨by omega, Int.lt_of_le_of_lt (show (l : Int) ≤ 20 by omega) (by decide +kernel)⟩, ?_⟩
  rw [neg_cdv (by omega)]
  have hAU := k.add
  have hUR := k.UR
  have hcB := cdv_le (A := B) (c := l) (by omega)
  have ef : ((U (wsh its) L : Nat) : Int) + ((mny (wsh its) L R : Nat) : Int) - (B : Int) + 1 = ((U (wsh its) (R - 1) + 1 - B : Nat) : Int) := by omega
  rw [ef]
  have hR : R ≤ 10 ^ 32 := k.r2
  refine ⟨trivial, trivial, trivial, mulok_n (Nat.le_trans (show cdv B l ≤ 10 ^ 34 by omega) (by decide +kernel)) (Nat.le_trans hR (by decide +kernel)), trivial, t, its, l, U (wsh its) (R - 1) + 1 - B, cdv B l, rfl, k.its, ⟨l1, l2⟩, fun hp => k.sum ?_, ⟨by omega, by omega, by omega⟩, ?_⟩
  · have : 0 < B := by
      rcases Nat.eq_zero_or_pos B with z | z
      · subst z
        rw [cdv_zero (by omega)] at hp
        exact absurd hp (Nat.lt_irrefl 0)
      · exact z
    omega
  simp only [wpSs, wpS, wpX, wpL, wpBo, wpO, wpTs, wpJ, wpI, plainX, boolX, noT, varW, List.getElem?_cons_zero, List.getElem?_cons_succ, List.set_cons_zero, List.set_cons_succ, cD, fnEn, view_int, view_bl, view_str, view_non, view_lst, view_tupl, view_ins, view_dct, view_scr, add_int, sub_int, mul_int, mod_int, div_int, idx_lst, idx_tup, wIf_t, wIf_f, lt_int, le_int, gt_int, ge_int, eq_int, ne_int, List.map_cons, List.map_nil, newW, setAll, wTg, lenD, sliD, strD, List.length_cons, List.length_nil]
  refine ⟨mulok_l ⟨by decide, by decide⟩, ?_⟩
  have e : (cdv B l : Nat) * (R : Int) - sop (wsh its) l (U (wsh its) (R - 1) + 1 - B) (cdv B l) = walks (pR (wsh its) R) l B := by
    unfold sop walks pR
    rw [sm_sub, sm_const]
    congr 1
    refine sm_congr fun i hi => ?_
    have h1 := cdv_lt (A := B) (c := l) (by omega) hi
    congr 2
    omega
  rw [e]
  exact h
end Mp.g

set_option Elab.async false
set_option linter.all false
set_option maxRecDepth 100000
set_option maxHeartbeats 1000000
namespace Mp.g
open PySem PySem.Spec L2 Mp
variable {Γ : Specs}
abbrev gcost (its : List (Option Nat)) (l L R W x : Nat) : Int := cost (pL (wsh its) L) (pR (wsh its) R) l W x
abbrev gdif (its : List (Option Nat)) (l L R W x : Nat) : Int := dif (pL (wsh its) L) (pR (wsh its) R) l W x
def sp_both (cg c : Nat) : Spec := fun ds C P _ => ∃ t its, ∃ l L R W x : Nat, ds = [gapD cg c t l its L R, .int W, .int x] ∧ GapOk its l L R ∧ x ≤ W ∧ W ≤ mny (wsh its) L R ∧ P (.int (2 * gcost its l L R W x)) C
theorem p_Gap_both {c_Gap c_Garden f_Gap_from_left f_Gap_from_right : Nat} (g1 : Γ f_Gap_from_left = sp_from_left c_Gap c_Garden) (g2 : Γ f_Gap_from_right = sp_from_right c_Gap c_Garden) (ds C Q PX) (h : sp_both c_Gap c_Garden ds C Q PX) :
    wpSs Γ (m_Gap_both c_Gap f_Gap_from_left f_Gap_from_right) (ro0 n_Gap_both ds) C (fnEn Q PX) := by
  obtain ⟨t, its, l, L, R, W, x, rfl, k, hx, hW, h⟩ := h
  unfold m_Gap_both
  rw [show ro0 n_Gap_both [gapD c_Gap c_Garden t l its L R, .int W, .int x] = [some (gapD c_Gap c_Garden t l its L R), some (.int W), some (.int x)] from rfl]
  simp only [wpSs, wpS, wpX, wpL, wpBo, wpO, wpTs, wpJ, wpI, plainX, boolX, noT, varW, List.getElem?_cons_zero, List.getElem?_cons_succ, List.set_cons_zero, List.set_cons_succ, cD, fnEn, view_int, view_bl, view_str, view_non, view_lst, view_tupl, view_ins, view_dct, view_scr, add_int, sub_int, mul_int, mod_int, div_int, idx_lst, idx_tup, wIf_t, wIf_f, lt_int, le_int, gt_int, ge_int, eq_int, ne_int, List.map_cons, List.map_nil, newW, setAll, wTg, lenD, sliD, strD, List.length_cons, List.length_nil, g1, g2, insD]
  refine ⟨trivial, t, its, l, L, R, x, rfl, k, by omega, trivial, t, its, l, L, R, W - x, by rw [Int.natCast_sub hx], k, by omega, ?_⟩
  simp only [wpSs, wpS, wpX, wpL, wpBo, wpO, wpTs, wpJ, wpI, plainX, boolX, noT, varW, List.getElem?_cons_zero, List.getElem?_cons_succ, List.set_cons_zero, List.set_cons_succ, cD, fnEn, view_int, view_bl, view_str, view_non, view_lst, view_tupl, view_ins, view_dct, view_scr, add_int, sub_int, mul_int, mod_int, div_int, idx_lst, idx_tup, wIf_t, wIf_f, lt_int, le_int, gt_int, ge_int, eq_int, ne_int, List.map_cons, List.map_nil, newW, setAll, wTg, lenD, sliD, strD, List.length_cons, List.length_nil]
  rw [← Int.mul_add]
  exact h
def sp_is_better (cg c : Nat) : Spec := fun ds C P _ => ∃ t its, ∃ l L R W x : Nat, ds = [gapD cg c t l its L R, .int W, .int x] ∧ GapOk its l L R ∧ x + l ≤ W ∧ W ≤ mny (wsh its) L R ∧ P (.bl (decide (gdif its l L R W x < 0))) C
theorem p_Gap_is_better {c_Gap c_Garden f_Garden_can f_place_of_litre : Nat} (g1 : Γ f_Garden_can = sp_Garden_can c_Garden) (g2 : Γ f_place_of_litre = sp_place_of_litre c_Garden) (ds C Q PX) (h : sp_is_better c_Gap c_Garden ds C Q PX) :
    wpSs Γ (m_Gap_is_better c_Gap c_Garden f_Garden_can f_place_of_litre) (ro0 n_Gap_is_better ds) C (fnEn Q PX) := by
  obtain ⟨t, its, l, L, R, W, x, rfl, k, hx, hW, h⟩ := h
  unfold m_Gap_is_better
  rw [show ro0 n_Gap_is_better [gapD c_Gap c_Garden t l its L R, .int W, .int x] = [some (gapD c_Gap c_Garden t l its L R), some (.int W), some (.int x), none, none] from rfl]
  have l1 := k.l1
  have hAU := k.add
  have hs := k.sum (by omega)
  simp only [wpSs, wpS, wpX, wpL, wpBo, wpO, wpTs, wpJ, wpI, plainX, boolX, noT, varW, List.getElem?_cons_zero, List.getElem?_cons_succ, List.set_cons_zero, List.set_cons_succ, cD, fnEn, view_int, view_bl, view_str, view_non, view_lst, view_tupl, view_ins, view_dct, view_scr, add_int, sub_int, mul_int, mod_int, div_int, idx_lst, idx_tup, wIf_t, wIf_f, lt_int, le_int, gt_int, ge_int, eq_int, ne_int, List.map_cons, List.map_nil, newW, setAll, wTg, lenD, sliD, strD, List.length_cons, List.length_nil, g1, g2, fldD, insD]
  refine ⟨trivial, trivial, trivial, trivial, t, .int l, .tup (its.map itD), rfl, ?_⟩
  refine ⟨t, l, its, U (wsh its) L + (x + l), by simp only [Int.natCast_add, Int.add_assoc]; rfl, k.its, hs, by omega, ?_⟩
  refine ⟨trivial, trivial, trivial, t, l, its, U (wsh its) (R - 1) + 1 - (W - x), ?_, k.its, hs, by omega, ?_⟩
  · rw [show ((U (wsh its) L : Nat) : Int) + ((mny (wsh its) L R : Nat) : Int) - (W : Int) + (x : Int) + 1 = ((U (wsh its) (R - 1) + 1 - (W - x) : Nat) : Int) by omega]
    rfl
  refine ⟨trivial, trivial, ?_⟩
  simp only [wpSs, wpS, wpX, wpL, wpBo, wpO, wpTs, wpJ, wpI, plainX, boolX, noT, varW, List.getElem?_cons_zero, List.getElem?_cons_succ, List.set_cons_zero, List.set_cons_succ, cD, fnEn, view_int, view_bl, view_str, view_non, view_lst, view_tupl, view_ins, view_dct, view_scr, add_int, sub_int, mul_int, mod_int, div_int, idx_lst, idx_tup, wIf_t, wIf_f, lt_int, le_int, gt_int, ge_int, eq_int, ne_int, List.map_cons, List.map_nil, newW, setAll, wTg, lenD, sliD, strD, List.length_cons, List.length_nil]
  have e : decide (((pl (wsh its) (U (wsh its) L + (x + l)) : Nat) : Int) - (L : Int) < (R : Int) - ((pl (wsh its) (U (wsh its) (R - 1) + 1 - (W - x)) : Nat) : Int)) = decide (gdif its l L R W x < 0) := by
    unfold gdif dif pL pR
    exact decide_eq_decide.mpr (by omega)
  rw [e]
  exact h
theorem gdif_mono {its : List (Option Nat)} {l L R W x y : Nat} (k : GapOk its l L R) (hs : 0 < (wsh its).sum) (hW : W ≤ mny (wsh its) L R) (hxy : x ≤ y) (hy : y ≤ W) : gdif its l L R W x ≤ gdif its l L R W y := by
  have l1 := k.l1
  have hAU := k.add
  have h1 := pl_mono (w := wsh its) (n := U (wsh its) L + (x + l)) (m := U (wsh its) L + (y + l)) hs (by omega) (by omega)
  have h2 := pl_mono (w := wsh its) (n := U (wsh its) (R - 1) + 1 - (W - x)) (m := U (wsh its) (R - 1) + 1 - (W - y)) hs (by omega) (by omega)
  unfold gdif dif pL pR
  omega
def sp_best_with (cg c : Nat) : Spec := fun ds C P _ => ∃ t its, ∃ l L R W r : Nat, ds = [gapD cg c t l its L R, .int W, .int r] ∧ GapOk its l L R ∧ r ≤ W ∧ W ≤ mny (wsh its) L R ∧
  ∀ low, r + low * l ≤ W → (∀ m, r + m * l ≤ W → gcost its l L R W (r + low * l) ≤ gcost its l L R W (r + m * l)) → P (.int (r + low * l : Nat)) C
theorem p_Gap_best_with {c_Gap c_Garden f_Gap_is_better f_Garden_can : Nat} (g1 : Γ f_Gap_is_better = sp_is_better c_Gap c_Garden) (g2 : Γ f_Garden_can = sp_Garden_can c_Garden) (ds C Q PX) (h : sp_best_with c_Gap c_Garden ds C Q PX) :
    wpSs Γ (m_Gap_best_with c_Gap c_Garden f_Gap_is_better f_Garden_can) (ro0 n_Gap_best_with ds) C (fnEn Q PX) := by
  obtain ⟨t, its, l, L, R, W, r, rfl, k, hr, hW, h⟩ := h
  unfold m_Gap_best_with
  rw [show ro0 n_Gap_best_with [gapD c_Gap c_Garden t l its L R, .int W, .int r] = [some (gapD c_Gap c_Garden t l its L R), some (.int W), some (.int r), none, none, none, none] from rfl]
  have l1 := k.l1
  have l2 := k.l2
  simp only [wpSs, wpS, wpX, wpL, wpBo, wpO, wpTs, wpJ, wpI, plainX, boolX, noT, varW, List.getElem?_cons_zero, List.getElem?_cons_succ, List.set_cons_zero, List.set_cons_succ, cD, fnEn, view_int, view_bl, view_str, view_non, view_lst, view_tupl, view_ins, view_dct, view_scr, add_int, sub_int, mul_int, mod_int, div_int, idx_lst, idx_tup, wIf_t, wIf_f, lt_int, le_int, gt_int, ge_int, eq_int, ne_int, List.map_cons, List.map_nil, newW, setAll, wTg, lenD, sliD, strD, List.length_cons, List.length_nil, g1, g2, fldD, insD]
  refine ⟨trivial, trivial, t, .int l, .tup (its.map itD), rfl, ?_⟩
  simp only [wpSs, wpS, wpX, wpL, wpBo, wpO, wpTs, wpJ, wpI, plainX, boolX, noT, varW, List.getElem?_cons_zero, List.getElem?_cons_succ, List.set_cons_zero, List.set_cons_succ, cD, fnEn, view_int, view_bl, view_str, view_non, view_lst, view_tupl, view_ins, view_dct, view_scr, add_int, sub_int, mul_int, mod_int, div_int, idx_lst, idx_tup, wIf_t, wIf_f, lt_int, le_int, gt_int, ge_int, eq_int, ne_int, List.map_cons, List.map_nil, newW, setAll, wTg, lenD, sliD, strD, List.length_cons, List.length_nil]
  have dl : DivOk (l : Int) := .inr ⟨by omega, Int.lt_of_le_of_lt (show (l : Int) ≤ 20 by omega) (by decide +kernel)⟩
  have et : fd ((W : Int) - (r : Int)) (l : Int) = ((W - r) / l : Nat) := by
    rw [fd_pos (by omega), show (W : Int) - (r : Int) = ((W - r : Nat) : Int) by omega, ← Int.natCast_ediv]
  rw [et]
  have htop : r + (W - r) / l * l ≤ W := by
    have := Nat.div_mul_le_self (W - r) l
    omega
  have htop2 : ∀ m, r + m * l ≤ W → m ≤ (W - r) / l := fun m hm => (Nat.le_div_iff_mul_le (by omega)).mpr (by omega)
  refine ⟨dl, trivial, ?_⟩
  refine ⟨fun m ρ C' => C' = C ∧ ∃ lo hi : Nat, m = hi - lo ∧ lo ≤ hi ∧ r + hi * l ≤ W ∧ (∀ j, j < lo → gdif its l L R W (r + j * l) < 0) ∧ (∀ j, hi ≤ j → r + (j + 1) * l ≤ W → 0 ≤ gdif its l L R W (r + j * l)) ∧
    ∃ y z, ρ = [some (gapD c_Gap c_Garden t l its L R), some (.int W), some (.int r), some (.int lo), some (.int hi), y, z],
    ⟨_, rfl, 0, (W - r) / l, rfl, Nat.zero_le _, htop, fun j hj => absurd hj (Nat.not_lt_zero _), fun j h1 h2 => absurd (htop2 _ h2) (by omega), _, _, rfl⟩, ?_⟩
  rintro m ρ C' ⟨rfl, lo, hi, hm, hlh, hhW, hlo, hhi, y, z, rfl⟩
  simp only [wpSs, wpS, wpX, wpL, wpBo, wpO, wpTs, wpJ, wpI, plainX, boolX, noT, varW, List.getElem?_cons_zero, List.getElem?_cons_succ, List.set_cons_zero, List.set_cons_succ, cD, fnEn, view_int, view_bl, view_str, view_non, view_lst, view_tupl, view_ins, view_dct, view_scr, add_int, sub_int, mul_int, mod_int, div_int, idx_lst, idx_tup, wIf_t, wIf_f, lt_int, le_int, gt_int, ge_int, eq_int, ne_int, List.map_cons, List.map_nil, newW, setAll, wTg, lenD, sliD, strD, List.length_cons, List.length_nil]
  cases e : decide ((lo : Int) < (hi : Int)) with
  | true =>
    have e := of_decide_eq_true e
    simp only [wpSs, wpS, wpX, wpL, wpBo, wpO, wpTs, wpJ, wpI, plainX, boolX, noT, varW, List.getElem?_cons_zero, List.getElem?_cons_succ, List.set_cons_zero, List.set_cons_succ, cD, fnEn, view_int, view_bl, view_str, view_non, view_lst, view_tupl, view_ins, view_dct, view_scr, add_int, sub_int, mul_int, mod_int, div_int, idx_lst, idx_tup, wIf_t, wIf_f, lt_int, le_int, gt_int, ge_int, eq_int, ne_int, List.map_cons, List.map_nil, newW, setAll, wTg, lenD, sliD, strD, List.length_cons, List.length_nil, g1, g2, fldD, insD]
    refine ⟨.inr ⟨by decide, Int.lt_trans (show (2 : Int) < 2 ^ 200 by decide) (by decide)⟩, ?_⟩
    rw [fd_pos (by decide), show ((lo : Int) + (hi : Int)) / 2 = (((lo + hi) / 2 : Nat) : Int) by omega]
    generalize hmid : (lo + hi) / 2 = mid
    have m1 : lo ≤ mid := by omega
    have m2 : mid < hi := by omega
    refine ⟨trivial, trivial, t, .int l, .tup (its.map itD), rfl, ?_⟩
    simp only [wpSs, wpS, wpX, wpL, wpBo, wpO, wpTs, wpJ, wpI, plainX, boolX, noT, varW, List.getElem?_cons_zero, List.getElem?_cons_succ, List.set_cons_zero, List.set_cons_succ, cD, fnEn, view_int, view_bl, view_str, view_non, view_lst, view_tupl, view_ins, view_dct, view_scr, add_int, sub_int, mul_int, mod_int, div_int, idx_lst, idx_tup, wIf_t, wIf_f, lt_int, le_int, gt_int, ge_int, eq_int, ne_int, List.map_cons, List.map_nil, newW, setAll, wTg, lenD, sliD, strD, List.length_cons, List.length_nil]
    have hmul : (mid + 1) * l ≤ hi * l := Nat.mul_le_mul_right l m2
    have hmul' := hmul
    rw [Nat.add_mul, Nat.one_mul] at hmul'
    refine ⟨mulok_r ⟨by omega, by omega⟩, trivial, t, its, l, L, R, W, r + mid * l, by rw [Int.natCast_add, Int.natCast_mul], k, by omega, hW, ?_⟩
    have hs := k.sum (by omega)
    simp only [wpSs, wpS, wpX, wpL, wpBo, wpO, wpTs, wpJ, wpI, plainX, boolX, noT, varW, List.getElem?_cons_zero, List.getElem?_cons_succ, List.set_cons_zero, List.set_cons_succ, cD, fnEn, view_int, view_bl, view_str, view_non, view_lst, view_tupl, view_ins, view_dct, view_scr, add_int, sub_int, mul_int, mod_int, div_int, idx_lst, idx_tup, wIf_t, wIf_f, lt_int, le_int, gt_int, ge_int, eq_int, ne_int, List.map_cons, List.map_nil, newW, setAll, wTg, lenD, sliD, strD, List.length_cons, List.length_nil]
    cases e2 : decide (gdif its l L R W (r + mid * l) < 0) with
    | true =>
      have e2 := of_decide_eq_true e2
      try simp only [wpSs, wpS, wpX, wpL, wpBo, wpO, wpTs, wpJ, wpI, plainX, boolX, noT, varW, List.getElem?_cons_zero, List.getElem?_cons_succ, List.set_cons_zero, List.set_cons_succ, cD, fnEn, view_int, view_bl, view_str, view_non, view_lst, view_tupl, view_ins, view_dct, view_scr, add_int, sub_int, mul_int, mod_int, div_int, idx_lst, idx_tup, wIf_t, wIf_f, lt_int, le_int, gt_int, ge_int, eq_int, ne_int, List.map_cons, List.map_nil, newW, setAll, wTg, lenD, sliD, strD, List.length_cons, List.length_nil]
      refine ⟨hi - (mid + 1), by omega, trivial, mid + 1, hi, rfl, by omega, hhW, fun j hj => ?_, hhi, _, _, rfl⟩
      have := Nat.mul_le_mul_right l (show j ≤ mid by omega)
      exact Int.lt_of_le_of_lt (gdif_mono k hs hW (show r + j * l ≤ r + mid * l by omega) (by omega)) e2
    | false =>
      have e2 := of_decide_eq_false e2
      try simp only [wpSs, wpS, wpX, wpL, wpBo, wpO, wpTs, wpJ, wpI, plainX, boolX, noT, varW, List.getElem?_cons_zero, List.getElem?_cons_succ, List.set_cons_zero, List.set_cons_succ, cD, fnEn, view_int, view_bl, view_str, view_non, view_lst, view_tupl, view_ins, view_dct, view_scr, add_int, sub_int, mul_int, mod_int, div_int, idx_lst, idx_tup, wIf_t, wIf_f, lt_int, le_int, gt_int, ge_int, eq_int, ne_int, List.map_cons, List.map_nil, newW, setAll, wTg, lenD, sliD, strD, List.length_cons, List.length_nil]
      refine ⟨mid - lo, by omega, trivial, lo, mid, rfl, by omega, by omega, hlo, fun j hj hjW => ?_, _, _, rfl⟩
      have := Nat.mul_le_mul_right l hj
      rw [Nat.add_mul, Nat.one_mul] at hjW
      exact Int.le_trans (Int.not_lt.mp e2) (gdif_mono k hs hW (show r + mid * l ≤ r + j * l by omega) (by omega))
  | false =>
    have e := of_decide_eq_false e
    have : lo = hi := by omega
    subst this
    simp only [wpSs, wpS, wpX, wpL, wpBo, wpO, wpTs, wpJ, wpI, plainX, boolX, noT, varW, List.getElem?_cons_zero, List.getElem?_cons_succ, List.set_cons_zero, List.set_cons_succ, cD, fnEn, view_int, view_bl, view_str, view_non, view_lst, view_tupl, view_ins, view_dct, view_scr, add_int, sub_int, mul_int, mod_int, div_int, idx_lst, idx_tup, wIf_t, wIf_f, lt_int, le_int, gt_int, ge_int, eq_int, ne_int, List.map_cons, List.map_nil, newW, setAll, wTg, lenD, sliD, strD, List.length_cons, List.length_nil, g1, g2, fldD, insD]
    refine ⟨trivial, trivial, t, .int l, .tup (its.map itD), rfl, ?_⟩
    simp only [wpSs, wpS, wpX, wpL, wpBo, wpO, wpTs, wpJ, wpI, plainX, boolX, noT, varW, List.getElem?_cons_zero, List.getElem?_cons_succ, List.set_cons_zero, List.set_cons_succ, cD, fnEn, view_int, view_bl, view_str, view_non, view_lst, view_tupl, view_ins, view_dct, view_scr, add_int, sub_int, mul_int, mod_int, div_int, idx_lst, idx_tup, wIf_t, wIf_f, lt_int, le_int, gt_int, ge_int, eq_int, ne_int, List.map_cons, List.map_nil, newW, setAll, wTg, lenD, sliD, strD, List.length_cons, List.length_nil]
    refine ⟨mulok_r ⟨by omega, by omega⟩, ?_⟩
    have := h lo hhW fun m hm => best_rest (by omega) hhW hlo hhi hm
    rw [Int.natCast_add, Int.natCast_mul] at this
    exact this
section
variable {tg : MT} {tt : Ro → Cs → KT → Prop} {te : Ro → Cs → KE → Prop} {ρ0 : Ro}
/-- every item gives some natural number of which Pr holds -/
theorem comp_nat (Pr : D → Nat → Prop) {C : Cs} : ∀ (ds acc : List D) (K : List D → Cs → Prop),
    (∀ d ∈ ds, ∀ (Q : KE) (E : Cs → Prop), (∀ x : Nat, Pr d x → ∀ ρ, Q (.int x) ρ C) → wTg tg d ρ0 fun ρ1 => tt ρ1 C fun b ρ2 C2 => wIf b (te ρ2 C2 Q) (E C2)) →
    acc.length + ds.length ≤ sizeLine → (∀ xs : List Nat, xs.length = ds.length → (∀ (i : Nat) (d : D) (x : Nat), ds[i]? = some d → xs[i]? = some x → Pr d x) → K (acc ++ xs.map fun x : Nat => D.int x) C) → compW tg tt te ρ0 ds C acc K
  | [], acc, K, h, hl, k => by
    have := k [] rfl fun i d x e _ => by simp at e
    rw [List.map_nil, List.append_nil] at this
    exact this
  | d :: ds, acc, K, h, hl, k => by
    rw [List.length_cons] at hl
    refine h d (List.mem_cons_self ..) _ _ fun x hx ρ => ⟨by omega, comp_nat Pr ds (acc ++ [.int x]) K (fun y hy => h y (List.mem_cons_of_mem _ hy)) (by rw [List.length_append, List.length_singleton]; omega) fun xs h1 h2 => ?_⟩
    rw [List.append_assoc]
    refine k (x :: xs) (by rw [List.length_cons, List.length_cons, h1]) fun i d' x' e1 e2 => ?_
    cases i with
    | zero =>
      simp at e1 e2
      subst e1 e2
      exact hx
    | succ i => exact h2 i d' x' (by simpa using e1) (by simpa using e2)
end
/-- a best split -/
def Best (its : List (Option Nat)) (l L R x : Nat) : Prop := x ≤ mny (wsh its) L R - 2 * l ∧ ∀ y, y ≤ mny (wsh its) L R - 2 * l → gcost its l L R (mny (wsh its) L R - 2 * l) x ≤ gcost its l L R (mny (wsh its) L R - 2 * l) y
def sp_best_split (cg c : Nat) : Spec := fun ds C P _ => ∃ t its, ∃ l L R : Nat, ds = [gapD cg c t l its L R] ∧ GapOk its l L R ∧
  ∀ x, Best its l L R x → P (.tup [.int x, .int (mny (wsh its) L R - 2 * l - x : Nat)]) C
theorem p_Gap_best_split {c_Gap c_Garden f_Gap_best_with f_Gap_both f_Garden_can : Nat} (g1 : Γ f_Gap_best_with = sp_best_with c_Gap c_Garden) (g2 : Γ f_Gap_both = sp_both c_Gap c_Garden) (g3 : Γ f_Garden_can = sp_Garden_can c_Garden) (ds C Q PX) (h : sp_best_split c_Gap c_Garden ds C Q PX) :
    wpSs Γ (m_Gap_best_split c_Gap c_Garden f_Gap_best_with f_Gap_both f_Garden_can) (ro0 n_Gap_best_split ds) C (fnEn Q PX) := by
  obtain ⟨t, its, l, L, R, rfl, k, h⟩ := h
  unfold m_Gap_best_split
  rw [show ro0 n_Gap_best_split [gapD c_Gap c_Garden t l its L R] = [some (gapD c_Gap c_Garden t l its L R), none, none, none, none, none] from rfl]
  have l1 := k.l1
  have l2 := k.l2
  simp only [wpSs, wpS, wpX, wpL, wpBo, wpO, wpTs, wpJ, wpI, plainX, boolX, noT, varW, List.getElem?_cons_zero, List.getElem?_cons_succ, List.set_cons_zero, List.set_cons_succ, cD, fnEn, view_int, view_bl, view_str, view_non, view_lst, view_tupl, view_ins, view_dct, view_scr, add_int, sub_int, mul_int, mod_int, div_int, idx_lst, idx_tup, wIf_t, wIf_f, lt_int, le_int, gt_int, ge_int, eq_int, ne_int, List.map_cons, List.map_nil, newW, setAll, wTg, lenD, sliD, strD, List.length_cons, List.length_nil, g1, g2, g3, fldD, insD]
  refine ⟨trivial, trivial, trivial, t, .int l, .tup (its.map itD), rfl, ?_⟩
  simp only [wpSs, wpS, wpX, wpL, wpBo, wpO, wpTs, wpJ, wpI, plainX, boolX, noT, varW, List.getElem?_cons_zero, List.getElem?_cons_succ, List.set_cons_zero, List.set_cons_succ, cD, fnEn, view_int, view_bl, view_str, view_non, view_lst, view_tupl, view_ins, view_dct, view_scr, add_int, sub_int, mul_int, mod_int, div_int, idx_lst, idx_tup, wIf_t, wIf_f, lt_int, le_int, gt_int, ge_int, eq_int, ne_int, List.map_cons, List.map_nil, newW, setAll, wTg, lenD, sliD, strD, List.length_cons, List.length_nil]
  refine ⟨mulok_r ⟨by omega, by omega⟩, .inl ⟨_, _, rfl, ?_⟩⟩
  simp only [wpSs, wpS, wpX, wpL, wpBo, wpO, wpTs, wpJ, wpI, plainX, boolX, noT, varW, List.getElem?_cons_zero, List.getElem?_cons_succ, List.set_cons_zero, List.set_cons_succ, cD, fnEn, view_int, view_bl, view_str, view_non, view_lst, view_tupl, view_ins, view_dct, view_scr, add_int, sub_int, mul_int, mod_int, div_int, idx_lst, idx_tup, wIf_t, wIf_f, lt_int, le_int, gt_int, ge_int, eq_int, ne_int, List.map_cons, List.map_nil, newW, setAll, wTg, lenD, sliD, strD, List.length_cons, List.length_nil, g1, g2, g3, fldD, insD]
  rw [show max (0 : Int) (((mny (wsh its) L R : Nat) : Int) - 2 * (l : Int)) = ((mny (wsh its) L R - 2 * l : Nat) : Int) by omega]
  have hW : mny (wsh its) L R - 2 * l ≤ mny (wsh its) L R := Nat.sub_le _ _
  unfold Best at h
  generalize mny (wsh its) L R - 2 * l = W at *
  refine ⟨trivial, trivial, t, .int l, .tup (its.map itD), rfl, .inl ⟨_, _, rfl, ?_⟩⟩
  simp only [wpSs, wpS, wpX, wpL, wpBo, wpO, wpTs, wpJ, wpI, plainX, boolX, noT, varW, List.getElem?_cons_zero, List.getElem?_cons_succ, List.set_cons_zero, List.set_cons_succ, cD, fnEn, view_int, view_bl, view_str, view_non, view_lst, view_tupl, view_ins, view_dct, view_scr, add_int, sub_int, mul_int, mod_int, div_int, idx_lst, idx_tup, wIf_t, wIf_f, lt_int, le_int, gt_int, ge_int, eq_int, ne_int, List.map_cons, List.map_nil, newW, setAll, wTg, lenD, sliD, strD, List.length_cons, List.length_nil]
  rw [show min (l : Int) ((W : Int) + 1) = ((min l (W + 1) : Nat) : Int) by omega]
  simp only [rngD]
  rw [rngL_map, Int.toNat_natCast]
  refine comp_nat (fun d x => ∃ r low : Nat, d = .int r ∧ x = r + low * l ∧ x ≤ W ∧ ∀ m, r + m * l ≤ W → gcost its l L R W x ≤ gcost its l L R W (r + m * l)) _ [] _ (fun d hd Q' E' q => ?_) ?_ fun xs hxl hxs => ?_
  · obtain ⟨i, hi, rfl⟩ := List.mem_map.mp hd
    have hi := List.mem_range.mp hi
    simp only [wpSs, wpS, wpX, wpL, wpBo, wpO, wpTs, wpJ, wpI, plainX, boolX, noT, varW, List.getElem?_cons_zero, List.getElem?_cons_succ, List.set_cons_zero, List.set_cons_succ, cD, fnEn, view_int, view_bl, view_str, view_non, view_lst, view_tupl, view_ins, view_dct, view_scr, add_int, sub_int, mul_int, mod_int, div_int, idx_lst, idx_tup, wIf_t, wIf_f, lt_int, le_int, gt_int, ge_int, eq_int, ne_int, List.map_cons, List.map_nil, newW, setAll, wTg, lenD, sliD, strD, List.length_cons, List.length_nil, wipeD, List.foldl, Int.zero_add]
    refine ⟨trivial, t, its, l, L, R, W, i, rfl, k, by omega, hW, fun low hl hb => q _ ⟨i, low, by rw [Int.zero_add], rfl, hl, hb⟩ _⟩
  · rw [List.length_map, List.length_range]
    exact Nat.le_trans (show _ ≤ 20 by simp; omega) (by decide)
  · rw [List.length_map, List.length_range] at hxl
    have hx : ∀ i, i < min l (W + 1) → ∃ x, xs[i]? = some x ∧ x ≤ W ∧ ∀ m, i + m * l ≤ W → gcost its l L R W x ≤ gcost its l L R W (i + m * l) := fun i hi => by
      have h1 : xs[i]? = some (xs[i]'(by omega)) := by simp [hxl, hi]
      obtain ⟨r, low, e1, e2, e3, e4⟩ := hxs i (.int i) _ (by rw [List.getElem?_map, List.getElem?_range hi]; simp) h1
      injection e1 with e1
      have : r = i := by omega
      subst this
      exact ⟨_, h1, e3, e4⟩
    have hxW : ∀ x ∈ xs, x ≤ W := fun x hx2 => by
      obtain ⟨i, hi, rfl⟩ := List.getElem_of_mem hx2
      obtain ⟨x, e1, e2, _⟩ := hx i (by omega)
      rw [List.getElem?_eq_getElem hi] at e1
      cases e1
      exact e2
    rw [List.nil_append]
    let f : D → D := fun d => match d with
      | .int x => pairD (2 * gcost its l L R W x.toNat, x)
      | _ => .non
    simp only [wpSs, wpS, wpX, wpL, wpBo, wpO, wpTs, wpJ, wpI, plainX, boolX, noT, varW, List.getElem?_cons_zero, List.getElem?_cons_succ, List.set_cons_zero, List.set_cons_succ, cD, fnEn, view_int, view_bl, view_str, view_non, view_lst, view_tupl, view_ins, view_dct, view_scr, add_int, sub_int, mul_int, mod_int, div_int, idx_lst, idx_tup, wIf_t, wIf_f, lt_int, le_int, gt_int, ge_int, eq_int, ne_int, List.map_cons, List.map_nil, newW, setAll, wTg, lenD, sliD, strD, List.length_cons, List.length_nil, itsD]
    refine comp_map f (fun d hd Q' E' q => ?_) ?_ ?_
    · obtain ⟨x, hx2, rfl⟩ := List.mem_map.mp hd
      simp only [wpSs, wpS, wpX, wpL, wpBo, wpO, wpTs, wpJ, wpI, plainX, boolX, noT, varW, List.getElem?_cons_zero, List.getElem?_cons_succ, List.set_cons_zero, List.set_cons_succ, cD, fnEn, view_int, view_bl, view_str, view_non, view_lst, view_tupl, view_ins, view_dct, view_scr, add_int, sub_int, mul_int, mod_int, div_int, idx_lst, idx_tup, wIf_t, wIf_f, lt_int, le_int, gt_int, ge_int, eq_int, ne_int, List.map_cons, List.map_nil, newW, setAll, wTg, lenD, sliD, strD, List.length_cons, List.length_nil, wipeD, List.foldl]
      refine ⟨trivial, t, its, l, L, R, W, x, rfl, k, hxW x hx2, hW, ?_⟩
      simp only [wpSs, wpS, wpX, wpL, wpBo, wpO, wpTs, wpJ, wpI, plainX, boolX, noT, varW, List.getElem?_cons_zero, List.getElem?_cons_succ, List.set_cons_zero, List.set_cons_succ, cD, fnEn, view_int, view_bl, view_str, view_non, view_lst, view_tupl, view_ins, view_dct, view_scr, add_int, sub_int, mul_int, mod_int, div_int, idx_lst, idx_tup, wIf_t, wIf_f, lt_int, le_int, gt_int, ge_int, eq_int, ne_int, List.map_cons, List.map_nil, newW, setAll, wTg, lenD, sliD, strD, List.length_cons, List.length_nil]
      refine ⟨by show 2 ≤ sizeLine; decide, ?_⟩
      have := q
      exact q _
    · rw [List.length_map, hxl]
      exact Nat.le_trans (show _ ≤ 20 by omega) (by decide)
    · rw [show (xs.map fun x : Nat => D.int x).map f = (xs.map fun x : Nat => (2 * gcost its l L R W x, (x : Int))).map pairD by
        rw [List.map_map, List.map_map]
        rfl]
      refine .inr (.inr (.inr ⟨_, rfl, ?_, fun p hp hmin => ?_⟩))
      · intro z
        have := congrArg List.length z
        rw [List.length_map, List.length_nil] at this
        omega
      · obtain ⟨x, hx2, rfl⟩ := List.mem_map.mp hp
        unfold pairD
        simp only [wpSs, wpS, wpX, wpL, wpBo, wpO, wpTs, wpJ, wpI, plainX, boolX, noT, varW, List.getElem?_cons_zero, List.getElem?_cons_succ, List.set_cons_zero, List.set_cons_succ, cD, fnEn, view_int, view_bl, view_str, view_non, view_lst, view_tupl, view_ins, view_dct, view_scr, add_int, sub_int, mul_int, mod_int, div_int, idx_lst, idx_tup, wIf_t, wIf_f, lt_int, le_int, gt_int, ge_int, eq_int, ne_int, List.map_cons, List.map_nil, newW, setAll, wTg, lenD, sliD, strD, List.length_cons, List.length_nil]
        refine ⟨_, (atI_nat (i := 1) rfl : atI _ ((1 : Nat) : Int) = _), ?_⟩
        refine ⟨by show 2 ≤ sizeLine; decide, ?_⟩
        have := h x ⟨hxW x hx2, fun y hy => ?_⟩
        · rw [Int.natCast_sub (hxW x hx2)] at this
          exact this
        · have hr : y % l < min l (W + 1) := by
            have h1 := Nat.mod_lt y (show 0 < l by omega)
            have h2 := Nat.mod_le y l
            omega
          obtain ⟨x', e1, e2, e3⟩ := hx _ hr
          have ey : y % l + y / l * l = y := by
            rw [Nat.mul_comm]
            exact Nat.mod_add_div y l
          have h4 := e3 (y / l) (by omega)
          rw [ey] at h4
          have h5 := hmin (2 * gcost its l L R W x', (x' : Int)) (List.mem_map.mpr ⟨x', List.mem_of_getElem? e1, rfl⟩)
          unfold leP at h5
          omega
def sp_cost_alone (cg c : Nat) : Spec := fun ds C P _ => ∃ t its, ∃ l L R : Nat, ds = [gapD cg c t l its L R] ∧ GapOk its l L R ∧ P (.int (2 * walks (pL (wsh its) L) l (mny (wsh its) L R))) C
theorem p_Gap_cost_alone {c_Gap c_Garden f_Gap_from_left : Nat} (g1 : Γ f_Gap_from_left = sp_from_left c_Gap c_Garden) (ds C Q PX) (h : sp_cost_alone c_Gap c_Garden ds C Q PX) : wpSs Γ (m_Gap_cost_alone c_Gap f_Gap_from_left) (ro0 n_Gap_cost_alone ds) C (fnEn Q PX) := by
  obtain ⟨t, its, l, L, R, rfl, k, h⟩ := h
  unfold m_Gap_cost_alone
  rw [show ro0 n_Gap_cost_alone [gapD c_Gap c_Garden t l its L R] = [some (gapD c_Gap c_Garden t l its L R)] from rfl]
  simp only [wpSs, wpS, wpX, wpL, wpBo, wpO, wpTs, wpJ, wpI, plainX, boolX, noT, varW, List.getElem?_cons_zero, List.getElem?_cons_succ, List.set_cons_zero, List.set_cons_succ, cD, fnEn, view_int, view_bl, view_str, view_non, view_lst, view_tupl, view_ins, view_dct, view_scr, add_int, sub_int, mul_int, mod_int, div_int, idx_lst, idx_tup, wIf_t, wIf_f, lt_int, le_int, gt_int, ge_int, eq_int, ne_int, List.map_cons, List.map_nil, newW, setAll, wTg, lenD, sliD, strD, List.length_cons, List.length_nil, g1, fldD, insD]
  exact ⟨trivial, trivial, t, its, l, L, R, _, rfl, k, Nat.le_refl _, h⟩
def sp_cost_across (cg c : Nat) : Spec := fun ds C P _ => ∃ t its, ∃ l L R : Nat, ds = [gapD cg c t l its L R] ∧ GapOk its l L R ∧ ∀ x, Best its l L R x → P (.int (2 * ((R : Int) - L) + 2 * gcost its l L R (mny (wsh its) L R - 2 * l) x)) C
theorem p_Gap_cost_across {c_Gap c_Garden f_Gap_best_split f_Gap_from_left f_Gap_from_right : Nat} (g1 : Γ f_Gap_best_split = sp_best_split c_Gap c_Garden) (g2 : Γ f_Gap_from_left = sp_from_left c_Gap c_Garden) (g3 : Γ f_Gap_from_right = sp_from_right c_Gap c_Garden) (ds C Q PX) (h : sp_cost_across c_Gap c_Garden ds C Q PX) :
    wpSs Γ (m_Gap_cost_across c_Gap f_Gap_best_split f_Gap_from_left f_Gap_from_right) (ro0 n_Gap_cost_across ds) C (fnEn Q PX) := by
  obtain ⟨t, its, l, L, R, rfl, k, h⟩ := h
  unfold m_Gap_cost_across
  rw [show ro0 n_Gap_cost_across [gapD c_Gap c_Garden t l its L R] = [some (gapD c_Gap c_Garden t l its L R), none, none] from rfl]
  simp only [wpSs, wpS, wpX, wpL, wpBo, wpO, wpTs, wpJ, wpI, plainX, boolX, noT, varW, List.getElem?_cons_zero, List.getElem?_cons_succ, List.set_cons_zero, List.set_cons_succ, cD, fnEn, view_int, view_bl, view_str, view_non, view_lst, view_tupl, view_ins, view_dct, view_scr, add_int, sub_int, mul_int, mod_int, div_int, idx_lst, idx_tup, wIf_t, wIf_f, lt_int, le_int, gt_int, ge_int, eq_int, ne_int, List.map_cons, List.map_nil, newW, setAll, wTg, lenD, sliD, strD, List.length_cons, List.length_nil, g1, g2, g3, fldD, insD]
  refine ⟨trivial, t, its, l, L, R, rfl, k, fun x hx => ?_⟩
  have hxW := hx.1
  simp only [wpSs, wpS, wpX, wpL, wpBo, wpO, wpTs, wpJ, wpI, plainX, boolX, noT, varW, List.getElem?_cons_zero, List.getElem?_cons_succ, List.set_cons_zero, List.set_cons_succ, cD, fnEn, view_int, view_bl, view_str, view_non, view_lst, view_tupl, view_ins, view_dct, view_scr, add_int, sub_int, mul_int, mod_int, div_int, idx_lst, idx_tup, wIf_t, wIf_f, lt_int, le_int, gt_int, ge_int, eq_int, ne_int, List.map_cons, List.map_nil, newW, setAll, wTg, lenD, sliD, strD, List.length_cons, List.length_nil, g1, g2, g3, fldD, insD]
  refine ⟨trivial, trivial, trivial, mulok_l ⟨by decide, by decide⟩, trivial, t, its, l, L, R, x, rfl, k, by omega, trivial, t, its, l, L, R, _, rfl, k, by omega, ?_⟩
  have := h x hx
  rw [show gcost its l L R (mny (wsh its) L R - 2 * l) x = walks (pL (wsh its) L) l x + walks (pR (wsh its) R) l (mny (wsh its) L R - 2 * l - x) from rfl, Int.mul_add, ← Int.add_assoc] at this
  exact this
/-- the item of a place -/
def itm (its : List (Option Nat)) (p : Nat) : Option Nat := its.getD ((p - 1) % its.length) none
def sp_item_at (c : Nat) : Spec := fun ds C P _ => ∃ t l its, ∃ p : Nat, ds = [gard c t l its, .int p] ∧ okIts 9 its ∧ 1 ≤ p ∧ P (itD (itm its p)) C
theorem p_item_at {c_Garden f_Garden_beds : Nat} (g1 : Γ f_Garden_beds = sp_Garden_beds c_Garden) (ds C Q PX) (h : sp_item_at c_Garden ds C Q PX) : wpSs Γ (m_item_at c_Garden f_Garden_beds) (ro0 n_item_at ds) C (fnEn Q PX) := by
  obtain ⟨t, l, its, p, rfl, ok, hp, h⟩ := h
  unfold m_item_at
  rw [show ro0 n_item_at [gard c_Garden t l its, .int p] = [some (gard c_Garden t l its), some (.int p)] from rfl]
  have h0 := ok.1
  simp only [wpSs, wpS, wpX, wpL, wpBo, wpO, wpTs, wpJ, wpI, plainX, boolX, noT, varW, List.getElem?_cons_zero, List.getElem?_cons_succ, List.set_cons_zero, List.set_cons_succ, cD, fnEn, view_int, view_bl, view_str, view_non, view_lst, view_tupl, view_ins, view_dct, view_scr, add_int, sub_int, mul_int, mod_int, div_int, idx_lst, idx_tup, wIf_t, wIf_f, lt_int, le_int, gt_int, ge_int, eq_int, ne_int, List.map_cons, List.map_nil, newW, setAll, wTg, lenD, sliD, strD, List.length_cons, List.length_nil, g1, insD]
  refine ⟨trivial, t, .int l, .tup (its.map itD), rfl, trivial, t, .int l, .tup (its.map itD), rfl, ?_⟩
  simp only [wpSs, wpS, wpX, wpL, wpBo, wpO, wpTs, wpJ, wpI, plainX, boolX, noT, varW, List.getElem?_cons_zero, List.getElem?_cons_succ, List.set_cons_zero, List.set_cons_succ, cD, fnEn, view_int, view_bl, view_str, view_non, view_lst, view_tupl, view_ins, view_dct, view_scr, add_int, sub_int, mul_int, mod_int, div_int, idx_lst, idx_tup, wIf_t, wIf_f, lt_int, le_int, gt_int, ge_int, eq_int, ne_int, List.map_cons, List.map_nil, newW, setAll, wTg, lenD, sliD, strD, List.length_cons, List.length_nil]
  refine ⟨_, rfl, ?_⟩
  simp only [wpSs, wpS, wpX, wpL, wpBo, wpO, wpTs, wpJ, wpI, plainX, boolX, noT, varW, List.getElem?_cons_zero, List.getElem?_cons_succ, List.set_cons_zero, List.set_cons_succ, cD, fnEn, view_int, view_bl, view_str, view_non, view_lst, view_tupl, view_ins, view_dct, view_scr, add_int, sub_int, mul_int, mod_int, div_int, idx_lst, idx_tup, wIf_t, wIf_f, lt_int, le_int, gt_int, ge_int, eq_int, ne_int, List.map_cons, List.map_nil, newW, setAll, wTg, lenD, sliD, strD, List.length_cons, List.length_nil]
  rw [List.length_map, fm_pos (by omega), show (p : Int) - 1 = ((p - 1 : Nat) : Int) by omega, ← Int.natCast_emod]
  have hm := Nat.mod_lt (p - 1) (show 0 < its.length by omega)
  refine ⟨by omega, itD (itm its p), atI_nat ?_, h⟩
  unfold itm
  rw [List.getElem?_map, List.getD_eq_getElem?_getD, List.getElem?_eq_getElem hm]
  rfl
/-- no tap of the items between two places -/
def Open (its : List (Option Nat)) (L R : Nat) : Prop := ∀ p, L < p → p < R → itm its p ≠ none
def sp_is_open (c : Nat) : Spec := fun ds C P _ => ∃ t l its, ∃ L R : Nat, ds = [gard c t l its, .int L, .int R] ∧ okIts 9 its ∧ L ≤ 10 ^ 32 ∧ Open its L R ∧ P (.bl true) C
theorem p_is_open {c_Garden f_Garden_beds f_item_at : Nat} (g1 : Γ f_Garden_beds = sp_Garden_beds c_Garden) (g2 : Γ f_item_at = sp_item_at c_Garden) (ds C Q PX) (h : sp_is_open c_Garden ds C Q PX) : wpSs Γ (m_is_open c_Garden f_Garden_beds f_item_at) (ro0 n_is_open ds) C (fnEn Q PX) := by
  obtain ⟨t, l, its, L, R, rfl, ok, hL, ho, h⟩ := h
  unfold m_is_open
  rw [show ro0 n_is_open [gard c_Garden t l its, .int L, .int R] = [some (gard c_Garden t l its), some (.int L), some (.int R), none, none] from rfl]
  simp only [wpSs, wpS, wpX, wpL, wpBo, wpO, wpTs, wpJ, wpI, plainX, boolX, noT, varW, List.getElem?_cons_zero, List.getElem?_cons_succ, List.set_cons_zero, List.set_cons_succ, cD, fnEn, view_int, view_bl, view_str, view_non, view_lst, view_tupl, view_ins, view_dct, view_scr, add_int, sub_int, mul_int, mod_int, div_int, idx_lst, idx_tup, wIf_t, wIf_f, lt_int, le_int, gt_int, ge_int, eq_int, ne_int, List.map_cons, List.map_nil, newW, setAll, wTg, lenD, sliD, strD, List.length_cons, List.length_nil, g1, g2, insD]
  refine ⟨trivial, t, .int l, .tup (its.map itD), rfl, ?_⟩
  simp only [wpSs, wpS, wpX, wpL, wpBo, wpO, wpTs, wpJ, wpI, plainX, boolX, noT, varW, List.getElem?_cons_zero, List.getElem?_cons_succ, List.set_cons_zero, List.set_cons_succ, cD, fnEn, view_int, view_bl, view_str, view_non, view_lst, view_tupl, view_ins, view_dct, view_scr, add_int, sub_int, mul_int, mod_int, div_int, idx_lst, idx_tup, wIf_t, wIf_f, lt_int, le_int, gt_int, ge_int, eq_int, ne_int, List.map_cons, List.map_nil, newW, setAll, wTg, lenD, sliD, strD, List.length_cons, List.length_nil]
  refine ⟨_, rfl, ?_⟩
  simp only [wpSs, wpS, wpX, wpL, wpBo, wpO, wpTs, wpJ, wpI, plainX, boolX, noT, varW, List.getElem?_cons_zero, List.getElem?_cons_succ, List.set_cons_zero, List.set_cons_succ, cD, fnEn, view_int, view_bl, view_str, view_non, view_lst, view_tupl, view_ins, view_dct, view_scr, add_int, sub_int, mul_int, mod_int, div_int, idx_lst, idx_tup, wIf_t, wIf_f, lt_int, le_int, gt_int, ge_int, eq_int, ne_int, List.map_cons, List.map_nil, newW, setAll, wTg, lenD, sliD, strD, List.length_cons, List.length_nil]
  refine .inl ⟨_, _, rfl, ?_⟩
  simp only [wpSs, wpS, wpX, wpL, wpBo, wpO, wpTs, wpJ, wpI, plainX, boolX, noT, varW, List.getElem?_cons_zero, List.getElem?_cons_succ, List.set_cons_zero, List.set_cons_succ, cD, fnEn, view_int, view_bl, view_str, view_non, view_lst, view_tupl, view_ins, view_dct, view_scr, add_int, sub_int, mul_int, mod_int, div_int, idx_lst, idx_tup, wIf_t, wIf_f, lt_int, le_int, gt_int, ge_int, eq_int, ne_int, List.map_cons, List.map_nil, newW, setAll, wTg, lenD, sliD, strD, List.length_cons, List.length_nil, rngD]
  have h0 := ok.1
  have h12 := ok.2.1
  rw [List.length_map, rngL_map]
  refine comp_map (fun _ => .bl true) (fun d hd Q' E' q => ?_) ?_ ?_
  · obtain ⟨i, hi, rfl⟩ := List.mem_map.mp hd
    have hi := List.mem_range.mp hi
    simp only [wpSs, wpS, wpX, wpL, wpBo, wpO, wpTs, wpJ, wpI, plainX, boolX, noT, varW, List.getElem?_cons_zero, List.getElem?_cons_succ, List.set_cons_zero, List.set_cons_succ, cD, fnEn, view_int, view_bl, view_str, view_non, view_lst, view_tupl, view_ins, view_dct, view_scr, add_int, sub_int, mul_int, mod_int, div_int, idx_lst, idx_tup, wIf_t, wIf_f, lt_int, le_int, gt_int, ge_int, eq_int, ne_int, List.map_cons, List.map_nil, newW, setAll, wTg, lenD, sliD, strD, List.length_cons, List.length_nil, wipeD, List.foldl]
    refine ⟨t, l, its, L + 1 + i, by simp only [Int.natCast_add]; rfl, ok, by omega, ?_⟩
    have hn := ho (L + 1 + i) (by omega) (by omega)
    cases e : itm its (L + 1 + i) with
    | none => exact absurd e hn
    | some n => exact q _
  · rw [List.length_map, List.length_range]
    exact Nat.le_trans (show _ ≤ 12 by omega) (by decide)
  · refine ⟨_, .inl rfl, ?_, ?_⟩
    · rw [List.all_eq_true]
      intro d hd
      obtain ⟨_, _, rfl⟩ := List.mem_map.mp hd
      rfl
    · rw [show (List.map (fun _ => D.bl true) (List.map (fun i : Nat => D.int (((L : Int) + 1) + (i : Nat))) (List.range ((min (R : Int) ((L : Int) + (its.length : Int) + 1)) - ((L : Int) + 1)).toNat))).all truD = true by
        rw [List.all_eq_true]
        intro d hd
        obtain ⟨_, _, rfl⟩ := List.mem_map.mp hd
        rfl]
      exact h
def sp_gap_between (cg c : Nat) : Spec := fun ds C P _ => ∃ t its, ∃ l L R : Nat, ds = [gard c t l its, .int L, .int R] ∧ GapOk its l L R ∧ R ≤ 10 ^ 30 ∧ Open its L R ∧ P (gapD cg c t l its L R) C
theorem p_gap_between {c_Gap c_Garden f_Gap_init f_check_garden f_check_number f_is_open : Nat} (g1 : Γ f_Gap_init = sp_Gap_init c_Gap c_Garden) (g2 : Γ f_check_garden = sp_check_garden c_Garden) (g3 : Γ f_check_number = sp_check_number) (g4 : Γ f_is_open = sp_is_open c_Garden) (ds C Q PX) (h : sp_gap_between c_Gap c_Garden ds C Q PX) :
    wpSs Γ (m_gap_between c_Gap f_Gap_init f_check_garden f_check_number f_is_open) (ro0 n_gap_between ds) C (fnEn Q PX) := by
  obtain ⟨t, its, l, L, R, rfl, k, hR, ho, h⟩ := h
  unfold m_gap_between
  rw [show ro0 n_gap_between [gard c_Garden t l its, .int L, .int R] = [some (gard c_Garden t l its), some (.int L), some (.int R)] from rfl]
  have lr := k.lr
  simp only [wpSs, wpS, wpX, wpL, wpBo, wpO, wpTs, wpJ, wpI, plainX, boolX, noT, varW, List.getElem?_cons_zero, List.getElem?_cons_succ, List.set_cons_zero, List.set_cons_succ, cD, fnEn, view_int, view_bl, view_str, view_non, view_lst, view_tupl, view_ins, view_dct, view_scr, add_int, sub_int, mul_int, mod_int, div_int, idx_lst, idx_tup, wIf_t, wIf_f, lt_int, le_int, gt_int, ge_int, eq_int, ne_int, List.map_cons, List.map_nil, newW, setAll, wTg, lenD, sliD, strD, List.length_cons, List.length_nil, g1, g2, g3, g4]
  refine ⟨_, rfl, _, _, _, rfl, by omega, by omega, _, _, _, rfl, by omega, by omega, ?_⟩
  rw [decide_eq_false (show ¬ (R : Int) ≤ (L : Int) by omega)]
  simp only [wpSs, wpS, wpX, wpL, wpBo, wpO, wpTs, wpJ, wpI, plainX, boolX, noT, varW, List.getElem?_cons_zero, List.getElem?_cons_succ, List.set_cons_zero, List.set_cons_succ, cD, fnEn, view_int, view_bl, view_str, view_non, view_lst, view_tupl, view_ins, view_dct, view_scr, add_int, sub_int, mul_int, mod_int, div_int, idx_lst, idx_tup, wIf_t, wIf_f, lt_int, le_int, gt_int, ge_int, eq_int, ne_int, List.map_cons, List.map_nil, newW, setAll, wTg, lenD, sliD, strD, List.length_cons, List.length_nil, g1, g2, g3, g4]
  refine ⟨t, l, its, L, R, rfl, k.its, by have := k.r2; omega, ho, ?_⟩
  simp only [wpSs, wpS, wpX, wpL, wpBo, wpO, wpTs, wpJ, wpI, plainX, boolX, noT, varW, List.getElem?_cons_zero, List.getElem?_cons_succ, List.set_cons_zero, List.set_cons_succ, cD, fnEn, view_int, view_bl, view_str, view_non, view_lst, view_tupl, view_ins, view_dct, view_scr, add_int, sub_int, mul_int, mod_int, div_int, idx_lst, idx_tup, wIf_t, wIf_f, lt_int, le_int, gt_int, ge_int, eq_int, ne_int, List.map_cons, List.map_nil, newW, setAll, wTg, lenD, sliD, strD, List.length_cons, List.length_nil, g1, wTru, Bool.not_true]
  refine fun a ha => ⟨a, t, its, l, L, R, rfl, k, cset_same, rfl, _, cset_same, ?_⟩
  rw [cset_cset, cdel_cset ha]
  exact h
def sp_alone (c : Nat) : Spec := fun ds C P _ => ∃ t its, ∃ l L R : Nat, ds = [gard c t l its, .int L, .int R] ∧ GapOk its l L R ∧ R ≤ 10 ^ 30 ∧ Open its L R ∧ P (.int (2 * walks (pL (wsh its) L) l (mny (wsh its) L R))) C
theorem p_alone {c_Gap c_Garden f_Gap_cost_alone f_gap_between : Nat} (g1 : Γ f_Gap_cost_alone = sp_cost_alone c_Gap c_Garden) (g2 : Γ f_gap_between = sp_gap_between c_Gap c_Garden) (ds C Q PX) (h : sp_alone c_Garden ds C Q PX) : wpSs Γ (m_alone c_Gap f_Gap_cost_alone f_gap_between) (ro0 n_alone ds) C (fnEn Q PX) := by
  obtain ⟨t, its, l, L, R, rfl, k, hR, ho, h⟩ := h
  unfold m_alone
  rw [show ro0 n_alone [gard c_Garden t l its, .int L, .int R] = [some (gard c_Garden t l its), some (.int L), some (.int R)] from rfl]
  simp only [wpSs, wpS, wpX, wpL, wpBo, wpO, wpTs, wpJ, wpI, plainX, boolX, noT, varW, List.getElem?_cons_zero, List.getElem?_cons_succ, List.set_cons_zero, List.set_cons_succ, cD, fnEn, view_int, view_bl, view_str, view_non, view_lst, view_tupl, view_ins, view_dct, view_scr, add_int, sub_int, mul_int, mod_int, div_int, idx_lst, idx_tup, wIf_t, wIf_f, lt_int, le_int, gt_int, ge_int, eq_int, ne_int, List.map_cons, List.map_nil, newW, setAll, wTg, lenD, sliD, strD, List.length_cons, List.length_nil, g1, g2]
  exact ⟨t, its, l, L, R, rfl, k, hR, ho, rfl, t, its, l, L, R, rfl, k, h⟩
def sp_across (c : Nat) : Spec := fun ds C P _ => ∃ t its, ∃ l L R : Nat, ds = [gard c t l its, .int L, .int R] ∧ GapOk its l L R ∧ R ≤ 10 ^ 30 ∧ Open its L R ∧ ∀ x, Best its l L R x → P (.int (2 * ((R : Int) - L) + 2 * gcost its l L R (mny (wsh its) L R - 2 * l) x)) C
theorem p_across {c_Gap c_Garden f_Gap_cost_across f_gap_between : Nat} (g1 : Γ f_Gap_cost_across = sp_cost_across c_Gap c_Garden) (g2 : Γ f_gap_between = sp_gap_between c_Gap c_Garden) (ds C Q PX) (h : sp_across c_Garden ds C Q PX) : wpSs Γ (m_across c_Gap f_Gap_cost_across f_gap_between) (ro0 n_across ds) C (fnEn Q PX) := by
  obtain ⟨t, its, l, L, R, rfl, k, hR, ho, h⟩ := h
  unfold m_across
  rw [show ro0 n_across [gard c_Garden t l its, .int L, .int R] = [some (gard c_Garden t l its), some (.int L), some (.int R)] from rfl]
  simp only [wpSs, wpS, wpX, wpL, wpBo, wpO, wpTs, wpJ, wpI, plainX, boolX, noT, varW, List.getElem?_cons_zero, List.getElem?_cons_succ, List.set_cons_zero, List.set_cons_succ, cD, fnEn, view_int, view_bl, view_str, view_non, view_lst, view_tupl, view_ins, view_dct, view_scr, add_int, sub_int, mul_int, mod_int, div_int, idx_lst, idx_tup, wIf_t, wIf_f, lt_int, le_int, gt_int, ge_int, eq_int, ne_int, List.map_cons, List.map_nil, newW, setAll, wTg, lenD, sliD, strD, List.length_cons, List.length_nil, g1, g2]
  exact ⟨t, its, l, L, R, rfl, k, hR, ho, rfl, t, its, l, L, R, rfl, k, h⟩
def sp_split (c : Nat) : Spec := fun ds C P _ => ∃ t its, ∃ l L R : Nat, ds = [gard c t l its, .int L, .int R] ∧ GapOk its l L R ∧ R ≤ 10 ^ 30 ∧ Open its L R ∧ ∀ x, Best its l L R x → P (.tup [.int x, .int (mny (wsh its) L R - 2 * l - x : Nat)]) C
theorem p_split {c_Gap c_Garden f_Gap_best_split f_gap_between : Nat} (g1 : Γ f_Gap_best_split = sp_best_split c_Gap c_Garden) (g2 : Γ f_gap_between = sp_gap_between c_Gap c_Garden) (ds C Q PX) (h : sp_split c_Garden ds C Q PX) : wpSs Γ (m_split c_Gap f_Gap_best_split f_gap_between) (ro0 n_split ds) C (fnEn Q PX) := by
  obtain ⟨t, its, l, L, R, rfl, k, hR, ho, h⟩ := h
  unfold m_split
  rw [show ro0 n_split [gard c_Garden t l its, .int L, .int R] = [some (gard c_Garden t l its), some (.int L), some (.int R)] from rfl]
  simp only [wpSs, wpS, wpX, wpL, wpBo, wpO, wpTs, wpJ, wpI, plainX, boolX, noT, varW, List.getElem?_cons_zero, List.getElem?_cons_succ, List.set_cons_zero, List.set_cons_succ, cD, fnEn, view_int, view_bl, view_str, view_non, view_lst, view_tupl, view_ins, view_dct, view_scr, add_int, sub_int, mul_int, mod_int, div_int, idx_lst, idx_tup, wIf_t, wIf_f, lt_int, le_int, gt_int, ge_int, eq_int, ne_int, List.map_cons, List.map_nil, newW, setAll, wTg, lenD, sliD, strD, List.length_cons, List.length_nil, g1, g2]
  exact ⟨t, its, l, L, R, rfl, k, hR, ho, rfl, t, its, l, L, R, rfl, k, h⟩
end Mp.g

set_option Elab.async false
set_option linter.all false
set_option maxRecDepth 100000
set_option maxHeartbeats 4000000
/-! bodies of defs in the small syntax, printed by bod.py -/
namespace Mp.g
open PySem PySem.Spec L2 Mp
/-- _law_sketch(_law_well_here, _law_most_load, _law_most_items, _law_most_wish, _law_tapped) -/
def n__law_sketchN : List Str := ["_law_well_here", "_law_most_load", "_law_most_items", "_law_most_wish", "_law_tapped", "_law_load", "_law_soil", "_law_turn", "_law_bare"]
def m__law_sketchN (f__law_dip : Nat) : List MS := [
    (.par [5, 6] [(.bin .Add (.cst (.int 1)) (.call f__law_dip [(.var 0 false), (.var 1 false)] 0)), (.lst true [])]),
    (.for (.nm 7) (.rng [(.bin .Add (.cst (.int 1)) (.call f__law_dip [(.var 0 false), (.var 2 false)] 0))]) [(.asg 8 (.cmp .Eq (.call f__law_dip [(.var 0 false), (.cst (.int 4))] 0) (.cst (.int 0)))), (.expr (.app (.var 6 false) (.ite (.bo .And [(.var 4 false), (.cmp .Eq (.call f__law_dip [(.var 0 false), (.cst (.int 4))] 0) (.cst (.int 0)))]) (.cst .none) (.ite (.var 8 false) (.cst (.int 0)) (.call f__law_dip [(.var 0 false), (.bin .Add (.var 3 false) (.cst (.int 1)))] 0)))))]),
    (.ret (.lst false [(.var 5 false), (.var 6 false)]))]
end Mp.g

set_option Elab.async false
set_option linter.all false
set_option maxRecDepth 100000
set_option maxHeartbeats 1000000
namespace Mp.g
open PySem PySem.Spec L2 Mp
variable {Γ : Specs}
def sp_sketchN : Spec := fun ds C P _ => ∃ w a s t ml mi mw b, ds = [.ref w, .int ml, .int mi, .int mw, .bl b] ∧ (1 ≤ ml ∧ ml ≤ 20) ∧ (1 ≤ mi ∧ mi ≤ 12) ∧ (0 ≤ mw ∧ mw ≤ 9) ∧ C w = some (wellD a s t) ∧
  ∀ (L : Nat) (its : List (Option Nat)) a' s' t' so, 1 ≤ L → (L : Int) ≤ ml → okIts 9 its → (b = false → ∀ o ∈ its, o ≠ none) → C so = none → P (.lst [.int L, .ref so]) (cset (cset C w (wellD a' s' t')) so (.lst (its.map itD)))
theorem p__law_sketchN {f__law_dip : Nat} (g1 : Γ f__law_dip = sp_dip) (ds C Q PX) (h : sp_sketchN ds C Q PX) : wpSs Γ (m__law_sketchN f__law_dip) (ro0 n__law_sketchN ds) C (fnEn Q PX) := by
  obtain ⟨w, a, s, t, ml, mi, mw, b, rfl, h1, h2, h3, hw, h⟩ := h
  rw [show ro0 n__law_sketchN [.ref w, .int ml, .int mi, .int mw, .bl b] = [some (.ref w), some (.int ml), some (.int mi), some (.int mw), some (.bl b), none, none, none, none] from rfl]
  unfold m__law_sketchN
  simp only [wpSs, wpS, wpX, wpL, wpBo, wpO, wpTs, wpJ, wpI, plainX, boolX, noT, varW, List.getElem?_cons_zero, List.getElem?_cons_succ, List.set_cons_zero, List.set_cons_succ, cD, fnEn, view_int, view_bl, view_str, view_non, view_lst, view_tupl, view_ins, view_dct, view_scr, add_int, sub_int, mul_int, mod_int, div_int, idx_lst, idx_tup, wIf_t, wIf_f, lt_int, le_int, gt_int, ge_int, eq_int, ne_int, List.map_cons, List.map_nil, g1]
  refine ⟨w, a, s, t, ml, rfl, by omega, by omega, hw, fun r a1 s1 t1 r0 r1 => ?_⟩
  simp only [wpSs, wpS, wpX, wpL, wpBo, wpO, wpTs, wpJ, wpI, plainX, boolX, noT, varW, List.getElem?_cons_zero, List.getElem?_cons_succ, List.set_cons_zero, List.set_cons_succ, cD, fnEn, view_int, view_bl, view_str, view_non, view_lst, view_tupl, view_ins, view_dct, view_scr, add_int, sub_int, mul_int, mod_int, div_int, idx_lst, idx_tup, wIf_t, wIf_f, lt_int, le_int, gt_int, ge_int, eq_int, ne_int, List.map_cons, List.map_nil]
  refine ⟨by show 0 ≤ sizeLine; decide, fun so hso => ⟨rfl, ?_⟩⟩
  have hne : w ≠ so := fun e => by rw [← e, cset_same] at hso; cases hso
  have hCso : C so = none := by rw [cset_ne (Ne.symm hne)] at hso; exact hso
  unfold setAll setAll setAll
  simp only [wpSs, wpS, wpX, wpL, wpBo, wpO, wpTs, wpJ, wpI, plainX, boolX, noT, varW, List.getElem?_cons_zero, List.getElem?_cons_succ, List.set_cons_zero, List.set_cons_succ, cD, fnEn, view_int, view_bl, view_str, view_non, view_lst, view_tupl, view_ins, view_dct, view_scr, add_int, sub_int, mul_int, mod_int, div_int, idx_lst, idx_tup, wIf_t, wIf_f, lt_int, le_int, gt_int, ge_int, eq_int, ne_int, List.map_cons, List.map_nil]
  refine dip_at hne (by omega) (by omega) fun r2 a2 s2 t2 p0 p1 => ?_
  simp only [wpSs, wpS, wpX, wpL, wpBo, wpO, wpTs, wpJ, wpI, plainX, boolX, noT, varW, List.getElem?_cons_zero, List.getElem?_cons_succ, List.set_cons_zero, List.set_cons_succ, cD, fnEn, view_int, view_bl, view_str, view_non, view_lst, view_tupl, view_ins, view_dct, view_scr, add_int, sub_int, mul_int, mod_int, div_int, idx_lst, idx_tup, wIf_t, wIf_f, lt_int, le_int, gt_int, ge_int, eq_int, ne_int, List.map_cons, List.map_nil]
  refine for_inv0 (fun i ρ C' => ∃ (its : List (Option Nat)) (a s t : Int) (y z : Option D), its.length = i ∧ (∀ o ∈ its, ∀ n, o = some n → n ≤ 9) ∧ (b = false → ∀ o ∈ its, o ≠ none) ∧ C' = cset (cset C w (wellD a s t)) so (.lst (its.map itD)) ∧
    ρ = [some (.ref w), some (.int ml), some (.int mi), some (.int mw), some (.bl b), some (.int (1 + r)), some (.ref so), y, z]) ⟨[], a2, s2, t2, none, none, rfl, fun o ho => (by cases ho), fun _ o ho => (by cases ho), rfl, rfl⟩ ?_ ?_
  · rintro i d ρ C' hd ⟨its, a, s, t, y, z, hl, hi, hq, rfl, rfl⟩ E hE hn hb
    have hi12 : i < 12 := by
      have := (List.getElem?_eq_some_iff.mp hd).1
      rw [rngL_len] at this
      omega
    have app : ∀ (o : Option Nat) (a s t : Int) (y z : Option D), (∀ n, o = some n → n ≤ 9) → (b = false → o ≠ none) → ∀ v, v = itD o → lstC (.ref so) (cset (cset C w (wellD a s t)) so (.lst (its.map itD))) fun x xs => xs.length < sizeLine ∧
        E.nx [some (.ref w), some (.int ml), some (.int mi), some (.int mw), some (.bl b), some (.int (1 + r)), some (.ref so), y, z] (cset (cset (cset C w (wellD a s t)) so (.lst (its.map itD))) so (.lst (xs ++ [v]))) := fun o a s t y z ho ho2 v hv => by
      refine lstC_ref cset_same ⟨?_, ?_⟩
      · rw [List.length_map, hl]
        exact Nat.lt_trans hi12 (by decide)
      · rw [cset_cset, hv]
        refine (hn _ _ ⟨its ++ [o], a, s, t, y, z, by rw [List.length_append, List.length_singleton, hl], fun o' ho' => ?_, fun hb0 o' ho' => ?_, by rw [List.map_append]; rfl, rfl⟩).1
        · rcases List.mem_append.mp ho' with q | q
          · exact hi o' q
          · rw [List.mem_singleton] at q
            subst q
            exact ho
        · rcases List.mem_append.mp ho' with q | q
          · exact hq hb0 o' q
          · rw [List.mem_singleton] at q
            subst q
            exact ho2 hb0
    unfold wTg
    simp only [wpSs, wpS, wpX, wpL, wpBo, wpO, wpTs, wpJ, wpI, plainX, boolX, noT, varW, List.getElem?_cons_zero, List.getElem?_cons_succ, List.set_cons_zero, List.set_cons_succ, cD, fnEn, view_int, view_bl, view_str, view_non, view_lst, view_tupl, view_ins, view_dct, view_scr, add_int, sub_int, mul_int, mod_int, div_int, idx_lst, idx_tup, wIf_t, wIf_f, lt_int, le_int, gt_int, ge_int, eq_int, ne_int, List.map_cons, List.map_nil]
    refine dip_at hne (by omega) (by omega) fun r3 a3 s3 t3 p0 p1 => ?_
    simp only [wpSs, wpS, wpX, wpL, wpBo, wpO, wpTs, wpJ, wpI, plainX, boolX, noT, varW, List.getElem?_cons_zero, List.getElem?_cons_succ, List.set_cons_zero, List.set_cons_succ, cD, fnEn, view_int, view_bl, view_str, view_non, view_lst, view_tupl, view_ins, view_dct, view_scr, add_int, sub_int, mul_int, mod_int, div_int, idx_lst, idx_tup, wIf_t, wIf_f, lt_int, le_int, gt_int, ge_int, eq_int, ne_int, List.map_cons, List.map_nil]
    refine lstC_ref cset_same ?_
    have last : ∀ (a s t : Int) (y : Option D) (bb : Bool), wIf bb (lstC (.ref so) (cset (cset C w (wellD a s t)) so (.lst (its.map itD))) fun x xs => xs.length < sizeLine ∧
        E.nx [some (.ref w), some (.int ml), some (.int mi), some (.int mw), some (.bl b), some (.int (1 + r)), some (.ref so), y, some (.bl bb)] (cset (cset (cset C w (wellD a s t)) so (.lst (its.map itD))) so (.lst (xs ++ [.int 0]))))
        (sp_dip [.ref w, .int (mw + 1)] (cset (cset C w (wellD a s t)) so (.lst (its.map itD))) (fun v C2 => lstC (.ref so) C2 fun x xs => xs.length < sizeLine ∧
          E.nx [some (.ref w), some (.int ml), some (.int mi), some (.int mw), some (.bl b), some (.int (1 + r)), some (.ref so), y, some (.bl bb)] (cset C2 so (.lst (xs ++ [v])))) fun e C3 => E.ex e [some (.ref w), some (.int ml), some (.int mi), some (.int mw), some (.bl b), some (.int (1 + r)), some (.ref so), y, some (.bl bb)] C3) := fun a s t y bb => by
      cases bb with
      | true => exact app (some 0) a s t y _ (fun n e => by injection e with e; omega) (fun _ e => by cases e) _ rfl
      | false =>
        rw [wIf_f]
        refine dip_at (size := mw + 1) hne (by omega) (by omega) fun r4 a4 s4 t4 p0 p1 => ?_
        refine app (some r4.toNat) a4 s4 t4 y _ (fun n e => by injection e with e; have := h3.2; omega) (fun _ e => by cases e) _ ?_
        show D.int r4 = D.int (r4.toNat : Int)
        rw [Int.toNat_of_nonneg p0]
    cases b with
    | true =>
      unfold wTru
      simp only [wpSs, wpS, wpX, wpL, wpBo, wpO, wpTs, wpJ, wpI, plainX, boolX, noT, varW, List.getElem?_cons_zero, List.getElem?_cons_succ, List.set_cons_zero, List.set_cons_succ, cD, fnEn, view_int, view_bl, view_str, view_non, view_lst, view_tupl, view_ins, view_dct, view_scr, add_int, sub_int, mul_int, mod_int, div_int, idx_lst, idx_tup, wIf_t, wIf_f, lt_int, le_int, gt_int, ge_int, eq_int, ne_int, List.map_cons, List.map_nil]
      refine dip_at hne (by omega) (by omega) fun r5 a5 s5 t5 p0 p1 => ?_
      show wIf (decide (r5 = 0)) _ _
      cases decide (r5 = 0) with
      | true => exact app none a5 s5 t5 _ _ (fun n e => by cases e) (fun e => by cases e) _ rfl
      | false => exact last a5 s5 t5 _ _
    | false => exact last a3 s3 t3 _ _
  · rintro ρ C' ⟨its, a, s, t, y, z, hl, hi, hq, rfl, rfl⟩
    rw [rngL_len] at hl
    simp only [wpSs, wpS, wpX, wpL, wpBo, wpO, wpTs, wpJ, wpI, plainX, boolX, noT, varW, List.getElem?_cons_zero, List.getElem?_cons_succ, List.set_cons_zero, List.set_cons_succ, cD, fnEn, view_int, view_bl, view_str, view_non, view_lst, view_tupl, view_ins, view_dct, view_scr, add_int, sub_int, mul_int, mod_int, div_int, idx_lst, idx_tup, wIf_t, wIf_f, lt_int, le_int, gt_int, ge_int, eq_int, ne_int, List.map_cons, List.map_nil]
    refine ⟨by show 2 ≤ sizeLine; decide, ?_⟩
    have e : (1 + r) = ((1 + r).toNat : Int) := by omega
    rw [e]
    exact h (1 + r).toNat its a s t so (by omega) (by omega) ⟨by omega, by omega, hi⟩ hq hCso
/-- one of a list; the well goes on -/
def sp_pick : Spec := fun ds C P _ => ∃ w a s t menu, ds = [.ref w, .lst menu] ∧ menu ≠ [] ∧ menu.length ≤ 100 ∧ C w = some (wellD a s t) ∧ ∀ d a' s' t', d ∈ menu → P d (cset C w (wellD a' s' t'))
theorem p__law_pick {f__law_dip : Nat} (g1 : Γ f__law_dip = sp_dip) (ds C Q PX) (h : sp_pick ds C Q PX) : wpSs Γ (m__law_pick f__law_dip) (ro0 n__law_pick ds) C (fnEn Q PX) := by
  obtain ⟨w, a, s, t, menu, rfl, hne, hl, hw, h⟩ := h
  unfold m__law_pick
  rw [show ro0 n__law_pick [.ref w, .lst menu] = [some (.ref w), some (.lst menu)] from rfl]
  have hp : 0 < menu.length := List.length_pos_iff.mpr hne
  simp only [wpSs, wpS, wpX, wpL, wpBo, wpO, wpTs, wpJ, wpI, plainX, boolX, noT, varW, List.getElem?_cons_zero, List.getElem?_cons_succ, List.set_cons_zero, List.set_cons_succ, cD, fnEn, view_int, view_bl, view_str, view_non, view_lst, view_tupl, view_ins, view_dct, view_scr, add_int, sub_int, mul_int, mod_int, div_int, idx_lst, idx_tup, wIf_t, wIf_f, lt_int, le_int, gt_int, ge_int, eq_int, ne_int, List.map_cons, List.map_nil, newW, setAll, wTg, lenD, sliD, strD, List.length_cons, List.length_nil, g1]
  refine ⟨_, rfl, w, a, s, t, menu.length, rfl, by omega, by omega, hw, fun r a' s' t' r0 r1 => ?_⟩
  simp only [wpSs, wpS, wpX, wpL, wpBo, wpO, wpTs, wpJ, wpI, plainX, boolX, noT, varW, List.getElem?_cons_zero, List.getElem?_cons_succ, List.set_cons_zero, List.set_cons_succ, cD, fnEn, view_int, view_bl, view_str, view_non, view_lst, view_tupl, view_ins, view_dct, view_scr, add_int, sub_int, mul_int, mod_int, div_int, idx_lst, idx_tup, wIf_t, wIf_f, lt_int, le_int, gt_int, ge_int, eq_int, ne_int, List.map_cons, List.map_nil, newW, setAll, wTg, lenD, sliD, strD, List.length_cons, List.length_nil]
  have hr : r.toNat < menu.length := by omega
  refine ⟨menu[r.toNat], ?_, h _ a' s' t' (List.getElem_mem hr)⟩
  have := atI_nat (xs := menu) (i := r.toNat) (x := menu[r.toNat]) (by simp [hr])
  rwa [Int.toNat_of_nonneg r0] at this
abbrev sketD (l : Nat) (its : List (Option Nat)) : D := .lst [.int l, .lst (its.map itD)]
def sp_lup : Spec := fun ds C P _ => ∃ (l : Nat) (its : List (Option Nat)) (p : Nat), ds = [sketD l its, .int p] ∧ okIts 9 its ∧ P (.int (U (wsh its) p : Nat)) C
theorem p__law_up_to (ds C Q PX) (h : sp_lup ds C Q PX) : wpSs Γ m__law_up_to (ro0 n__law_up_to ds) C (fnEn Q PX) := by
  obtain ⟨l, its, p, rfl, ok, h⟩ := h
  unfold m__law_up_to
  rw [show ro0 n__law_up_to [sketD l its, .int p] = [some (sketD l its), some (.int p), none, none] from rfl]
  simp only [wpSs, wpS, wpX, wpL, wpBo, wpO, wpTs, wpJ, wpI, plainX, boolX, noT, varW, List.getElem?_cons_zero, List.getElem?_cons_succ, List.set_cons_zero, List.set_cons_succ, cD, fnEn, view_int, view_bl, view_str, view_non, view_lst, view_tupl, view_ins, view_dct, view_scr, add_int, sub_int, mul_int, mod_int, div_int, idx_lst, idx_tup, wIf_t, wIf_f, lt_int, le_int, gt_int, ge_int, eq_int, ne_int, List.map_cons, List.map_nil]
  refine ⟨_, (atI_nat (i := 1) rfl : atI _ ((1 : Nat) : Int) = _), ?_⟩
  refine beds_comp (Γ := Γ) ok (by simp [wipeD]) ?_
  simp only [wpSs, wpS, wpX, wpL, wpBo, wpO, wpTs, wpJ, wpI, plainX, boolX, noT, varW, List.getElem?_cons_zero, List.getElem?_cons_succ, List.set_cons_zero, List.set_cons_succ, cD, fnEn, view_int, view_bl, view_str, view_non, view_lst, view_tupl, view_ins, view_dct, view_scr, add_int, sub_int, mul_int, mod_int, div_int, idx_lst, idx_tup, wIf_t, wIf_f, lt_int, le_int, gt_int, ge_int, eq_int, ne_int, List.map_cons, List.map_nil, newW, setAll, wTg, lenD, sliD, strD, List.length_cons, List.length_nil]
  refine ⟨_, rfl, ?_⟩
  simp only [wpSs, wpS, wpX, wpL, wpBo, wpO, wpTs, wpJ, wpI, plainX, boolX, noT, varW, List.getElem?_cons_zero, List.getElem?_cons_succ, List.set_cons_zero, List.set_cons_succ, cD, fnEn, view_int, view_bl, view_str, view_non, view_lst, view_tupl, view_ins, view_dct, view_scr, add_int, sub_int, mul_int, mod_int, div_int, idx_lst, idx_tup, wIf_t, wIf_f, lt_int, le_int, gt_int, ge_int, eq_int, ne_int, List.map_cons, List.map_nil, newW, setAll, wTg, lenD, sliD, strD, List.length_cons, List.length_nil]
  have hl : ((((wsh its).map fun n : Nat => (n : Int)).map D.int).length : Int) = ((wsh its).length : Nat) := by simp
  have h0 : 0 < (wsh its).length := by rw [wsh_len]; exact ok.1
  have h12 : (wsh its).length ≤ 12 := by rw [wsh_len]; exact ok.2.1
  have hs := wsh_sum_le ok
  rw [hl]
  refine ⟨.inr ⟨by omega, Int.lt_of_le_of_lt (show ((wsh its).length : Int) ≤ 12 by omega) (by decide +kernel)⟩, _, .inl rfl, ?_⟩
  rw [wsh_sum, fd_pos (by omega)]
  simp only [wpSs, wpS, wpX, wpL, wpBo, wpO, wpTs, wpJ, wpI, plainX, boolX, noT, varW, List.getElem?_cons_zero, List.getElem?_cons_succ, List.set_cons_zero, List.set_cons_succ, cD, fnEn, view_int, view_bl, view_str, view_non, view_lst, view_tupl, view_ins, view_dct, view_scr, add_int, sub_int, mul_int, mod_int, div_int, idx_lst, idx_tup, wIf_t, wIf_f, lt_int, le_int, gt_int, ge_int, eq_int, ne_int, List.map_cons, List.map_nil, newW, setAll, wTg, lenD, sliD, strD, List.length_cons, List.length_nil]
  refine ⟨mulok_r ⟨by omega, by omega⟩, bi_int ?_⟩
  refine ⟨_, rfl, ?_⟩
  simp only [wpSs, wpS, wpX, wpL, wpBo, wpO, wpTs, wpJ, wpI, plainX, boolX, noT, varW, List.getElem?_cons_zero, List.getElem?_cons_succ, List.set_cons_zero, List.set_cons_succ, cD, fnEn, view_int, view_bl, view_str, view_non, view_lst, view_tupl, view_ins, view_dct, view_scr, add_int, sub_int, mul_int, mod_int, div_int, idx_lst, idx_tup, wIf_t, wIf_f, lt_int, le_int, gt_int, ge_int, eq_int, ne_int, List.map_cons, List.map_nil, newW, setAll, wTg, lenD, sliD, strD, List.length_cons, List.length_nil]
  rw [hl, fm_pos (by omega), ← Int.natCast_emod, ← Int.natCast_ediv]
  have lm := Nat.mod_lt p h0
  refine ⟨by omega, ?_⟩
  rw [cut_hi _ _ (by rw [List.length_map, List.length_map]; omega)]
  refine ⟨((wsh its).take (p % (wsh its).length)).map fun n : Nat => (n : Int), .inl (by rw [← List.map_take, ← List.map_take]), ?_⟩
  rw [wsh_sum]
  simp only [wpSs, wpS, wpX, wpL, wpBo, wpO, wpTs, wpJ, wpI, plainX, boolX, noT, varW, List.getElem?_cons_zero, List.getElem?_cons_succ, List.set_cons_zero, List.set_cons_succ, cD, fnEn, view_int, view_bl, view_str, view_non, view_lst, view_tupl, view_ins, view_dct, view_scr, add_int, sub_int, mul_int, mod_int, div_int, idx_lst, idx_tup, wIf_t, wIf_f, lt_int, le_int, gt_int, ge_int, eq_int, ne_int, List.map_cons, List.map_nil, newW, setAll, wTg, lenD, sliD, strD, List.length_cons, List.length_nil]
  have e : ((U (wsh its) p : Nat) : Int) = ((p / (wsh its).length : Nat) : Int) * ((wsh its).sum : Nat) + (((wsh its).take (p % (wsh its).length)).sum : Nat) := by
    unfold U
    rw [Int.natCast_add, Int.natCast_mul]
  rw [← e]
  exact h
theorem take_lt {w : List Nat} {a r : Nat} (h : (w.take a).sum ≤ r) (hr : r < w.sum) : a < w.length := by
  rcases Nat.lt_or_ge a w.length with q | q
  · exact q
  · rw [List.take_of_length_le q] at h
    omega
def sp_spot : Spec := fun ds C P _ => ∃ (l : Nat) (its : List (Option Nat)) (n : Nat), ds = [sketD l its, .int n] ∧ okIts 9 its ∧ 0 < (wsh its).sum ∧ 1 ≤ n ∧ P (.int (pl (wsh its) n : Nat)) C
theorem p__law_spot_of (ds C Q PX) (h : sp_spot ds C Q PX) : wpSs Γ m__law_spot_of (ro0 n__law_spot_of ds) C (fnEn Q PX) := by
  obtain ⟨l, its, n, rfl, ok, s0, n1, h⟩ := h
  unfold m__law_spot_of
  rw [show ro0 n__law_spot_of [sketD l its, .int n] = [some (sketD l its), some (.int n), none, none, none, none, none] from rfl]
  simp only [wpSs, wpS, wpX, wpL, wpBo, wpO, wpTs, wpJ, wpI, plainX, boolX, noT, varW, List.getElem?_cons_zero, List.getElem?_cons_succ, List.set_cons_zero, List.set_cons_succ, cD, fnEn, view_int, view_bl, view_str, view_non, view_lst, view_tupl, view_ins, view_dct, view_scr, add_int, sub_int, mul_int, mod_int, div_int, idx_lst, idx_tup, wIf_t, wIf_f, lt_int, le_int, gt_int, ge_int, eq_int, ne_int, List.map_cons, List.map_nil]
  refine ⟨_, (atI_nat (i := 1) rfl : atI _ ((1 : Nat) : Int) = _), ?_⟩
  refine beds_comp (Γ := Γ) ok (by simp [wipeD]) ?_
  simp only [wpSs, wpS, wpX, wpL, wpBo, wpO, wpTs, wpJ, wpI, plainX, boolX, noT, varW, List.getElem?_cons_zero, List.getElem?_cons_succ, List.set_cons_zero, List.set_cons_succ, cD, fnEn, view_int, view_bl, view_str, view_non, view_lst, view_tupl, view_ins, view_dct, view_scr, add_int, sub_int, mul_int, mod_int, div_int, idx_lst, idx_tup, wIf_t, wIf_f, lt_int, le_int, gt_int, ge_int, eq_int, ne_int, List.map_cons, List.map_nil, newW, setAll, wTg, lenD, sliD, strD, List.length_cons, List.length_nil]
  refine ⟨_, .inl rfl, ?_⟩
  rw [wsh_sum]
  simp only [wpSs, wpS, wpX, wpL, wpBo, wpO, wpTs, wpJ, wpI, plainX, boolX, noT, varW, List.getElem?_cons_zero, List.getElem?_cons_succ, List.set_cons_zero, List.set_cons_succ, cD, fnEn, view_int, view_bl, view_str, view_non, view_lst, view_tupl, view_ins, view_dct, view_scr, add_int, sub_int, mul_int, mod_int, div_int, idx_lst, idx_tup, wIf_t, wIf_f, lt_int, le_int, gt_int, ge_int, eq_int, ne_int, List.map_cons, List.map_nil, newW, setAll, wTg, lenD, sliD, strD, List.length_cons, List.length_nil]
  have h0 : 0 < (wsh its).length := by rw [wsh_len]; exact ok.1
  have h12 : (wsh its).length ≤ 12 := by rw [wsh_len]; exact ok.2.1
  have hs := wsh_sum_le ok
  refine ⟨.inr ⟨by omega, Int.lt_of_le_of_lt (show ((wsh its).sum : Int) ≤ 108 by omega) (by decide +kernel)⟩, bi_int ?_⟩
  refine ⟨_, .inl rfl, ?_⟩
  rw [wsh_sum]
  simp only [wpSs, wpS, wpX, wpL, wpBo, wpO, wpTs, wpJ, wpI, plainX, boolX, noT, varW, List.getElem?_cons_zero, List.getElem?_cons_succ, List.set_cons_zero, List.set_cons_succ, cD, fnEn, view_int, view_bl, view_str, view_non, view_lst, view_tupl, view_ins, view_dct, view_scr, add_int, sub_int, mul_int, mod_int, div_int, idx_lst, idx_tup, wIf_t, wIf_f, lt_int, le_int, gt_int, ge_int, eq_int, ne_int, List.map_cons, List.map_nil, newW, setAll, wTg, lenD, sliD, strD, List.length_cons, List.length_nil]
  rw [fm_pos (by omega), fd_pos (by omega), show (n : Int) - 1 = ((n - 1 : Nat) : Int) by omega, ← Int.natCast_emod, ← Int.natCast_ediv]
  have lm := Nat.mod_lt (n - 1) s0
  refine ⟨by omega, trivial, ?_⟩
  refine ⟨fun m ρ C' => C' = C ∧ ∃ a : Nat, m = (wsh its).length - a ∧ ((wsh its).take a).sum ≤ (n - 1) % (wsh its).sum ∧
    ρ = [some (sketD l its), some (.int n), some (.lst (((wsh its).map fun n : Nat => (n : Int)).map D.int)), none, some (.int ((n - 1) / (wsh its).sum : Nat)), some (.int (((n - 1) % (wsh its).sum : Nat) - (((wsh its).take a).sum : Nat))), some (.int a)], ⟨_, rfl, 0, rfl, Nat.zero_le _, rfl⟩, ?_⟩
  rintro m ρ C' ⟨rfl, a, hm, hl, rfl⟩
  have ha := take_lt hl lm
  have ea : (((wsh its).map fun n : Nat => (n : Int)).map D.int)[a]? = some (D.int ((wsh its)[a] : Nat)) := by simp [ha]
  have hts := take_succ_sum (wsh its) a ha
  simp only [wpSs, wpS, wpX, wpL, wpBo, wpO, wpTs, wpJ, wpI, plainX, boolX, noT, varW, List.getElem?_cons_zero, List.getElem?_cons_succ, List.set_cons_zero, List.set_cons_succ, cD, fnEn, view_int, view_bl, view_str, view_non, view_lst, view_tupl, view_ins, view_dct, view_scr, add_int, sub_int, mul_int, mod_int, div_int, idx_lst, idx_tup, wIf_t, wIf_f, lt_int, le_int, gt_int, ge_int, eq_int, ne_int, List.map_cons, List.map_nil, newW, setAll, wTg, lenD, sliD, strD, List.length_cons, List.length_nil]
  refine ⟨_, atI_nat ea, ?_⟩
  simp only [wpSs, wpS, wpX, wpL, wpBo, wpO, wpTs, wpJ, wpI, plainX, boolX, noT, varW, List.getElem?_cons_zero, List.getElem?_cons_succ, List.set_cons_zero, List.set_cons_succ, cD, fnEn, view_int, view_bl, view_str, view_non, view_lst, view_tupl, view_ins, view_dct, view_scr, add_int, sub_int, mul_int, mod_int, div_int, idx_lst, idx_tup, wIf_t, wIf_f, lt_int, le_int, gt_int, ge_int, eq_int, ne_int, List.map_cons, List.map_nil, newW, setAll, wTg, lenD, sliD, strD, List.length_cons, List.length_nil]
  cases e : decide ((((wsh its)[a] : Nat) : Int) ≤ ((n - 1) % (wsh its).sum : Nat) - (((wsh its).take a).sum : Nat)) with
  | true =>
    have e := of_decide_eq_true e
    simp only [wpSs, wpS, wpX, wpL, wpBo, wpO, wpTs, wpJ, wpI, plainX, boolX, noT, varW, List.getElem?_cons_zero, List.getElem?_cons_succ, List.set_cons_zero, List.set_cons_succ, cD, fnEn, view_int, view_bl, view_str, view_non, view_lst, view_tupl, view_ins, view_dct, view_scr, add_int, sub_int, mul_int, mod_int, div_int, idx_lst, idx_tup, wIf_t, wIf_f, lt_int, le_int, gt_int, ge_int, eq_int, ne_int, List.map_cons, List.map_nil, newW, setAll, wTg, lenD, sliD, strD, List.length_cons, List.length_nil]
    refine ⟨_, atI_nat ea, ?_⟩
    simp only [wpSs, wpS, wpX, wpL, wpBo, wpO, wpTs, wpJ, wpI, plainX, boolX, noT, varW, List.getElem?_cons_zero, List.getElem?_cons_succ, List.set_cons_zero, List.set_cons_succ, cD, fnEn, view_int, view_bl, view_str, view_non, view_lst, view_tupl, view_ins, view_dct, view_scr, add_int, sub_int, mul_int, mod_int, div_int, idx_lst, idx_tup, wIf_t, wIf_f, lt_int, le_int, gt_int, ge_int, eq_int, ne_int, List.map_cons, List.map_nil, newW, setAll, wTg, lenD, sliD, strD, List.length_cons, List.length_nil]
    refine ⟨(wsh its).length - (a + 1), by omega, trivial, a + 1, rfl, by omega, ?_⟩
    rw [hts, Int.natCast_add, Int.natCast_add, Int.sub_sub]
    rfl
  | false =>
    have e := of_decide_eq_false e
    simp only [wpSs, wpS, wpX, wpL, wpBo, wpO, wpTs, wpJ, wpI, plainX, boolX, noT, varW, List.getElem?_cons_zero, List.getElem?_cons_succ, List.set_cons_zero, List.set_cons_succ, cD, fnEn, view_int, view_bl, view_str, view_non, view_lst, view_tupl, view_ins, view_dct, view_scr, add_int, sub_int, mul_int, mod_int, div_int, idx_lst, idx_tup, wIf_t, wIf_f, lt_int, le_int, gt_int, ge_int, eq_int, ne_int, List.map_cons, List.map_nil, newW, setAll, wTg, lenD, sliD, strD, List.length_cons, List.length_nil]
    refine ⟨_, rfl, ?_⟩
    simp only [wpSs, wpS, wpX, wpL, wpBo, wpO, wpTs, wpJ, wpI, plainX, boolX, noT, varW, List.getElem?_cons_zero, List.getElem?_cons_succ, List.set_cons_zero, List.set_cons_succ, cD, fnEn, view_int, view_bl, view_str, view_non, view_lst, view_tupl, view_ins, view_dct, view_scr, add_int, sub_int, mul_int, mod_int, div_int, idx_lst, idx_tup, wIf_t, wIf_f, lt_int, le_int, gt_int, ge_int, eq_int, ne_int, List.map_cons, List.map_nil, newW, setAll, wTg, lenD, sliD, strD, List.length_cons, List.length_nil]
    refine ⟨mulok_r ⟨by simp; omega, by simp; omega⟩, ?_⟩
    have ip := pl_of n (a + 1) s0 n1 (by omega) ha (by rw [Nat.add_sub_cancel]; exact hl) (by omega)
    rw [pl_uniq h0 (pl_ok s0 n1) ip, Int.natCast_add, Int.natCast_mul, Int.natCast_add, ← Int.add_assoc] at h
    simpa using h
end Mp.g

set_option Elab.async false
set_option linter.all false
set_option maxRecDepth 100000
set_option maxHeartbeats 1000000
namespace Mp.g
open PySem PySem.Spec L2 Mp
variable {Γ : Specs}
theorem left_eq {w : List Nat} {l L A : Nat} (hl : 1 ≤ l) : sop w l (U w L + A + l - cdv A l * l) (cdv A l) - (cdv A l : Nat) * (L : Int) = walks (pL w L) l A := by
  have hclt : cdv A l * l < A + l := by
    unfold cdv
    have := Nat.div_mul_le_self (A + l - 1) l
    omega
  unfold sop walks pL
  rw [sm_sub, sm_const, sm_rev]
  congr 1
  refine sm_congr fun i hi => ?_
  have h1 := cdv_lt (A := A) (c := l) (by omega) hi
  congr 2
  have e3 : (cdv A l - 1 - i) * l = cdv A l * l - l - i * l := by
    rw [Nat.sub_mul, Nat.sub_mul, Nat.one_mul]
  have h4 : (i + 1) * l ≤ cdv A l * l := Nat.mul_le_mul_right l hi
  rw [Nat.add_mul, Nat.one_mul] at h4
  rw [e3]
  omega
theorem right_eq {w : List Nat} {l R B : Nat} (hl : 1 ≤ l) (hB : B ≤ U w (R - 1)) : (cdv B l : Nat) * (R : Int) - sop w l (U w (R - 1) + 1 - B) (cdv B l) = walks (pR w R) l B := by
  unfold sop walks pR
  rw [sm_sub, sm_const]
  congr 1
  refine sm_congr fun i hi => ?_
  have h1 := cdv_lt (A := B) (c := l) (by omega) hi
  congr 2
  omega
theorem cdv_int {A c : Nat} (hc : 0 < c) : fd ((A : Int) + (c : Int) - 1) (c : Int) = (cdv A c : Nat) := by
  rw [fd_pos (by omega), show (A : Int) + (c : Int) - 1 = ((A + c - 1 : Nat) : Int) by omega, ← Int.natCast_ediv]
  rfl
def sp_far_sum : Spec := fun ds C P _ => ∃ its, ∃ l first count : Nat, ds = [sketD l its, .int first, .int count] ∧ okIts 9 its ∧ (1 ≤ l ∧ l ≤ 20) ∧ (0 < count → 0 < (wsh its).sum) ∧ (1 ≤ first ∧ first ≤ 10 ^ 40 ∧ count ≤ 10 ^ 40) ∧ P (.int (sop (wsh its) l first count)) C
theorem p__law_far_sum {f__law_spot_of : Nat} (g1 : Γ f__law_spot_of = sp_spot) (ds C Q PX) (h : sp_far_sum ds C Q PX) : wpSs Γ (m__law_far_sum f__law_spot_of) (ro0 n__law_far_sum ds) C (fnEn Q PX) := by
  obtain ⟨its, l, first, count, rfl, ok, ⟨l1, l2⟩, hs, ⟨f1, f2, c2⟩, h⟩ := h
  unfold m__law_far_sum
  rw [show ro0 n__law_far_sum [sketD l its, .int first, .int count] = [some (sketD l its), some (.int first), some (.int count), none, none, none, none, none, none, none] from rfl]
  have h0 : 0 < (wsh its).length := by rw [wsh_len]; exact ok.1
  have h12 : (wsh its).length ≤ 12 := by rw [wsh_len]; exact ok.2.1
  have hs2 := wsh_sum_le ok
  have hlen : (its.map itD).length = (wsh its).length := by rw [List.length_map, wsh_len]
  simp only [wpSs, wpS, wpX, wpL, wpBo, wpO, wpTs, wpJ, wpI, plainX, boolX, noT, varW, List.getElem?_cons_zero, List.getElem?_cons_succ, List.set_cons_zero, List.set_cons_succ, cD, fnEn, view_int, view_bl, view_str, view_non, view_lst, view_tupl, view_ins, view_dct, view_scr, add_int, sub_int, mul_int, mod_int, div_int, idx_lst, idx_tup, wIf_t, wIf_f, lt_int, le_int, gt_int, ge_int, eq_int, ne_int, List.map_cons, List.map_nil]
  refine ⟨_, (atI_nat (i := 1) rfl : atI _ ((1 : Nat) : Int) = _), ?_⟩
  refine beds_comp' (Γ := Γ) (v := 6) ok (by simp [wipeD]) ?_
  refine ⟨_, .inl rfl, ?_⟩
  rw [wsh_sum]
  simp only [wpSs, wpS, wpX, wpL, wpBo, wpO, wpTs, wpJ, wpI, plainX, boolX, noT, varW, List.getElem?_cons_zero, List.getElem?_cons_succ, List.set_cons_zero, List.set_cons_succ, cD, fnEn, view_int, view_bl, view_str, view_non, view_lst, view_tupl, view_ins, view_dct, view_scr, add_int, sub_int, mul_int, mod_int, div_int, idx_lst, idx_tup, wIf_t, wIf_f, lt_int, le_int, gt_int, ge_int, eq_int, ne_int, List.map_cons, List.map_nil, newW, setAll, wTg, lenD, sliD, strD, List.length_cons, List.length_nil, g1]
  refine ⟨_, (atI_nat (i := 0) rfl : atI _ ((0 : Nat) : Int) = _), ?_⟩
  refine ⟨_, (atI_nat (i := 1) rfl : atI _ ((1 : Nat) : Int) = _), ?_⟩
  refine ⟨_, rfl, ?_⟩
  simp only [wpSs, wpS, wpX, wpL, wpBo, wpO, wpTs, wpJ, wpI, plainX, boolX, noT, varW, List.getElem?_cons_zero, List.getElem?_cons_succ, List.set_cons_zero, List.set_cons_succ, cD, fnEn, view_int, view_bl, view_str, view_non, view_lst, view_tupl, view_ins, view_dct, view_scr, add_int, sub_int, mul_int, mod_int, div_int, idx_lst, idx_tup, wIf_t, wIf_f, lt_int, le_int, gt_int, ge_int, eq_int, ne_int, List.map_cons, List.map_nil, newW, setAll, wTg, lenD, sliD, strD, List.length_cons, List.length_nil, g1]
  rw [hlen]
  refine ⟨trivial, .inl ⟨_, _, rfl, ?_⟩⟩
  simp only [rngD]
  have hmin : min ((wsh its).sum : Int) (count : Int) = ((min (wsh its).sum count : Nat) : Int) := by omega
  rw [hmin, rngL_map, Int.toNat_natCast]
  rcases Nat.eq_zero_or_pos count with z | hc
  · subst z
    rw [Nat.min_zero]
    exact h
  have hs := hs hc
  rw [sop_min hs hs (Nat.mul_comm _ _) f1] at h
  generalize hF : (fun a => (((count - a - 1) / (wsh its).sum + 1 : Nat) : Int) * (pl (wsh its) (first + a * l) : Nat) + (l * (wsh its).length : Nat) * (tri ((count - a - 1) / (wsh its).sum + 1) : Nat)) = F at h
  refine for_inv0 (fun i ρ C' => C' = C ∧ i ≤ min (wsh its).sum count ∧ ∃ y z, ρ = [some (sketD l its), some (.int first), some (.int count), some (.int ((wsh its).sum : Nat)), some (.int l), some (.int ((wsh its).length : Nat)), none, some (.int (sm F i)), y, z]) ⟨rfl, Nat.zero_le _, _, _, rfl⟩ ?_ ?_
  · rintro i d ρ C' hd ⟨rfl, hi, y, z, rfl⟩ E' hE hn hb
    rw [List.getElem?_map] at hd
    obtain ⟨k, hk, rfl⟩ := Option.map_eq_some_iff.mp hd
    have hki : i < min (wsh its).sum count := by
      have := (List.getElem?_eq_some_iff.mp hk).1
      simpa using this
    rw [List.getElem?_range hki] at hk
    cases hk
    simp only [wpSs, wpS, wpX, wpL, wpBo, wpO, wpTs, wpJ, wpI, plainX, boolX, noT, varW, List.getElem?_cons_zero, List.getElem?_cons_succ, List.set_cons_zero, List.set_cons_succ, cD, fnEn, view_int, view_bl, view_str, view_non, view_lst, view_tupl, view_ins, view_dct, view_scr, add_int, sub_int, mul_int, mod_int, div_int, idx_lst, idx_tup, wIf_t, wIf_f, lt_int, le_int, gt_int, ge_int, eq_int, ne_int, List.map_cons, List.map_nil, newW, setAll, wTg, lenD, sliD, strD, List.length_cons, List.length_nil, Int.zero_add]
    refine ⟨.inr ⟨by omega, Int.lt_of_le_of_lt (show ((wsh its).sum : Int) ≤ 108 by omega) (by decide +kernel)⟩, ?_⟩
    have eo : fd ((count : Int) - 1 - (i : Int)) ((wsh its).sum : Int) + 1 = (((count - i - 1) / (wsh its).sum + 1 : Nat) : Int) := by
      rw [fd_pos (by omega), show (count : Int) - 1 - (i : Int) = ((count - i - 1 : Nat) : Int) by omega, ← Int.natCast_ediv]
      rfl
    rw [eo]
    have ho : (count - i - 1) / (wsh its).sum + 1 ≤ 10 ^ 40 := by
      have := Nat.div_le_self (count - i - 1) (wsh its).sum
      omega
    have hF' : F i = (((count - i - 1) / (wsh its).sum + 1 : Nat) : Int) * (pl (wsh its) (first + i * l) : Nat) + (l * (wsh its).length : Nat) * (tri ((count - i - 1) / (wsh its).sum + 1) : Nat) := by rw [← hF]
    have hti := tri_int ((count - i - 1) / (wsh its).sum)
    have o1 : 1 ≤ (count - i - 1) / (wsh its).sum + 1 := Nat.succ_le_succ (Nat.zero_le _)
    generalize (count - i - 1) / (wsh its).sum + 1 = o at *
    refine ⟨mulok_r ⟨by omega, by omega⟩, l, its, first + i * l, by rw [Int.natCast_add, Int.natCast_mul]; rfl, ok, hs, by omega, ?_⟩
    have hil : i * l ≤ 108 * 20 := Nat.mul_le_mul (by omega) l2
    have hpl : pl (wsh its) (first + i * l) ≤ 10 ^ 43 := by
      refine Nat.le_trans (pl_le hs (by omega)) (Nat.le_trans (Nat.mul_le_mul (show first + i * l ≤ 10 ^ 40 + 108 * 20 by omega) h12) (by decide +kernel))
    simp only [wpSs, wpS, wpX, wpL, wpBo, wpO, wpTs, wpJ, wpI, plainX, boolX, noT, varW, List.getElem?_cons_zero, List.getElem?_cons_succ, List.set_cons_zero, List.set_cons_succ, cD, fnEn, view_int, view_bl, view_str, view_non, view_lst, view_tupl, view_ins, view_dct, view_scr, add_int, sub_int, mul_int, mod_int, div_int, idx_lst, idx_tup, wIf_t, wIf_f, lt_int, le_int, gt_int, ge_int, eq_int, ne_int, List.map_cons, List.map_nil, newW, setAll, wTg, lenD, sliD, strD, List.length_cons, List.length_nil]
    have hll : l * (wsh its).length ≤ 20 * 12 := Nat.mul_le_mul l2 h12
    rw [show (o : Int) - 1 = ((o - 1 : Nat) : Int) by omega] at hti ⊢
    refine ⟨mulok_n (Nat.le_trans ho (by decide +kernel)) (Nat.le_trans hpl (by decide +kernel)), mulok_r ⟨by omega, by omega⟩, mulok_n (Nat.le_trans ho (by decide +kernel)) (Nat.le_trans (Nat.sub_le _ _) (Nat.le_trans ho (by decide +kernel))), .inr ⟨by decide, Int.lt_trans (show (2 : Int) < 2 ^ 200 by decide) (by decide)⟩, ?_⟩
    rw [fd_pos (by decide), hti, ← Int.natCast_mul l]
    refine ⟨mulok_l ⟨by omega, by omega⟩, (hn _ _ ⟨rfl, by omega, some (.int i), some (.int o), ?_⟩).1⟩
    rw [sm, hF', Int.add_assoc]
  · rintro ρ C' ⟨rfl, hi, y, z, rfl⟩
    rw [List.length_map, List.length_range]
    simp only [wpSs, wpS, wpX, wpL, wpBo, wpO, wpTs, wpJ, wpI, plainX, boolX, noT, varW, List.getElem?_cons_zero, List.getElem?_cons_succ, List.set_cons_zero, List.set_cons_succ, cD, fnEn, view_int, view_bl, view_str, view_non, view_lst, view_tupl, view_ins, view_dct, view_scr, add_int, sub_int, mul_int, mod_int, div_int, idx_lst, idx_tup, wIf_t, wIf_f, lt_int, le_int, gt_int, ge_int, eq_int, ne_int, List.map_cons, List.map_nil, newW, setAll, wTg, lenD, sliD, strD, List.length_cons, List.length_nil]
    exact h
def sp_far_left : Spec := fun ds C P _ => ∃ its, ∃ l L A : Nat, ds = [sketD l its, .int L, .int A] ∧ okIts 9 its ∧ (1 ≤ l ∧ l ≤ 20) ∧ (0 < A → 0 < (wsh its).sum) ∧ L ≤ 10 ^ 32 ∧ A ≤ 10 ^ 35 ∧ P (.int (2 * walks (pL (wsh its) L) l A)) C
theorem p__law_far_left {f__law_far_sum f__law_up_to : Nat} (g1 : Γ f__law_far_sum = sp_far_sum) (g2 : Γ f__law_up_to = sp_lup) (ds C Q PX) (h : sp_far_left ds C Q PX) : wpSs Γ (m__law_far_left f__law_far_sum f__law_up_to) (ro0 n__law_far_left ds) C (fnEn Q PX) := by
  obtain ⟨its, l, L, A, rfl, ok, ⟨l1, l2⟩, hs, hL, hA, h⟩ := h
  unfold m__law_far_left
  rw [show ro0 n__law_far_left [sketD l its, .int L, .int A] = [some (sketD l its), some (.int L), some (.int A), none, none, none] from rfl]
  simp only [wpSs, wpS, wpX, wpL, wpBo, wpO, wpTs, wpJ, wpI, plainX, boolX, noT, varW, List.getElem?_cons_zero, List.getElem?_cons_succ, List.set_cons_zero, List.set_cons_succ, cD, fnEn, view_int, view_bl, view_str, view_non, view_lst, view_tupl, view_ins, view_dct, view_scr, add_int, sub_int, mul_int, mod_int, div_int, idx_lst, idx_tup, wIf_t, wIf_f, lt_int, le_int, gt_int, ge_int, eq_int, ne_int, List.map_cons, List.map_nil, newW, setAll, wTg, lenD, sliD, strD, List.length_cons, List.length_nil, g1, g2]
  refine ⟨_, (atI_nat (i := 0) rfl : atI _ ((0 : Nat) : Int) = _), ?_⟩
  simp only [wpSs, wpS, wpX, wpL, wpBo, wpO, wpTs, wpJ, wpI, plainX, boolX, noT, varW, List.getElem?_cons_zero, List.getElem?_cons_succ, List.set_cons_zero, List.set_cons_succ, cD, fnEn, view_int, view_bl, view_str, view_non, view_lst, view_tupl, view_ins, view_dct, view_scr, add_int, sub_int, mul_int, mod_int, div_int, idx_lst, idx_tup, wIf_t, wIf_f, lt_int, le_int, gt_int, ge_int, eq_int, ne_int, List.map_cons, List.map_nil, newW, setAll, wTg, lenD, sliD, strD, List.length_cons, List.length_nil, g1, g2]
  rw [cdv_int (by omega)]
  refine ⟨.inr ⟨by omega, Int.lt_of_le_of_lt (show (l : Int) ≤ 20 by omega) (by decide +kernel)⟩, ?_⟩
  have hcA := cdv_le (A := A) (c := l) (by omega)
  cases e : decide (((cdv A l : Nat) : Int) = 0) with
  | true =>
    have e := of_decide_eq_true e
    have hA0 : A = 0 := by
      rcases Nat.eq_zero_or_pos A with z | z
      · exact z
      · have := cdv_pos (c := l) (A := A) (by omega) z
        omega
    subst hA0
    rw [walks_zero (by omega), Int.mul_zero] at h
    exact h
  | false =>
    have e := of_decide_eq_false e
    simp only [wpSs, wpS, wpX, wpL, wpBo, wpO, wpTs, wpJ, wpI, plainX, boolX, noT, varW, List.getElem?_cons_zero, List.getElem?_cons_succ, List.set_cons_zero, List.set_cons_succ, cD, fnEn, view_int, view_bl, view_str, view_non, view_lst, view_tupl, view_ins, view_dct, view_scr, add_int, sub_int, mul_int, mod_int, div_int, idx_lst, idx_tup, wIf_t, wIf_f, lt_int, le_int, gt_int, ge_int, eq_int, ne_int, List.map_cons, List.map_nil, newW, setAll, wTg, lenD, sliD, strD, List.length_cons, List.length_nil, g1, g2]
    refine ⟨l, its, L, rfl, ok, ?_⟩
    have h0 : 0 < (wsh its).length := by rw [wsh_len]; exact ok.1
    have hU := U_le h0 (wsh_le ok) L
    have hclt : cdv A l * l < A + l := by
      unfold cdv
      have := Nat.div_mul_le_self (A + l - 1) l
      omega
    have hA0 : 0 < A := by
      rcases Nat.eq_zero_or_pos A with z | z
      · subst z
        rw [cdv_zero (by omega)] at e
        exact absurd rfl e
      · exact z
    have ef : ((U (wsh its) L : Nat) : Int) + (A : Int) - ((cdv A l : Nat) - 1) * (l : Int) = ((U (wsh its) L + A + l - cdv A l * l : Nat) : Int) := by
      rw [Int.sub_mul, Int.one_mul, ← Int.natCast_mul]
      omega
    simp only [wpSs, wpS, wpX, wpL, wpBo, wpO, wpTs, wpJ, wpI, plainX, boolX, noT, varW, List.getElem?_cons_zero, List.getElem?_cons_succ, List.set_cons_zero, List.set_cons_succ, cD, fnEn, view_int, view_bl, view_str, view_non, view_lst, view_tupl, view_ins, view_dct, view_scr, add_int, sub_int, mul_int, mod_int, div_int, idx_lst, idx_tup, wIf_t, wIf_f, lt_int, le_int, gt_int, ge_int, eq_int, ne_int, List.map_cons, List.map_nil, newW, setAll, wTg, lenD, sliD, strD, List.length_cons, List.length_nil, g1, g2]
    rw [ef]
    refine ⟨mulok_r ⟨by omega, by omega⟩, its, l, U (wsh its) L + A + l - cdv A l * l, cdv A l, rfl, ok, ⟨l1, l2⟩, fun _ => hs hA0, ⟨by omega, by omega, by omega⟩, ?_⟩
    simp only [wpSs, wpS, wpX, wpL, wpBo, wpO, wpTs, wpJ, wpI, plainX, boolX, noT, varW, List.getElem?_cons_zero, List.getElem?_cons_succ, List.set_cons_zero, List.set_cons_succ, cD, fnEn, view_int, view_bl, view_str, view_non, view_lst, view_tupl, view_ins, view_dct, view_scr, add_int, sub_int, mul_int, mod_int, div_int, idx_lst, idx_tup, wIf_t, wIf_f, lt_int, le_int, gt_int, ge_int, eq_int, ne_int, List.map_cons, List.map_nil, newW, setAll, wTg, lenD, sliD, strD, List.length_cons, List.length_nil]
    refine ⟨mulok_n (Nat.le_trans (show cdv A l ≤ 10 ^ 35 by omega) (by decide +kernel)) (Nat.le_trans hL (by decide +kernel)), mulok_l ⟨by decide, by decide⟩, ?_⟩
    rw [left_eq l1]
    exact h
def sp_far_right : Spec := fun ds C P _ => ∃ its, ∃ l R B : Nat, ds = [sketD l its, .int R, .int B] ∧ okIts 9 its ∧ (1 ≤ l ∧ l ≤ 20) ∧ (0 < B → 0 < (wsh its).sum) ∧ 1 ≤ R ∧ R ≤ 10 ^ 32 ∧ B ≤ U (wsh its) (R - 1) ∧ P (.int (2 * walks (pR (wsh its) R) l B)) C
theorem p__law_far_right {f__law_far_sum f__law_up_to : Nat} (g1 : Γ f__law_far_sum = sp_far_sum) (g2 : Γ f__law_up_to = sp_lup) (ds C Q PX) (h : sp_far_right ds C Q PX) : wpSs Γ (m__law_far_right f__law_far_sum f__law_up_to) (ro0 n__law_far_right ds) C (fnEn Q PX) := by
  obtain ⟨its, l, R, B, rfl, ok, ⟨l1, l2⟩, hs, hR1, hR, hB, h⟩ := h
  unfold m__law_far_right
  rw [show ro0 n__law_far_right [sketD l its, .int R, .int B] = [some (sketD l its), some (.int R), some (.int B), none, none, none] from rfl]
  have h0 : 0 < (wsh its).length := by rw [wsh_len]; exact ok.1
  have hU := U_le h0 (wsh_le ok) (R - 1)
  simp only [wpSs, wpS, wpX, wpL, wpBo, wpO, wpTs, wpJ, wpI, plainX, boolX, noT, varW, List.getElem?_cons_zero, List.getElem?_cons_succ, List.set_cons_zero, List.set_cons_succ, cD, fnEn, view_int, view_bl, view_str, view_non, view_lst, view_tupl, view_ins, view_dct, view_scr, add_int, sub_int, mul_int, mod_int, div_int, idx_lst, idx_tup, wIf_t, wIf_f, lt_int, le_int, gt_int, ge_int, eq_int, ne_int, List.map_cons, List.map_nil, newW, setAll, wTg, lenD, sliD, strD, List.length_cons, List.length_nil, g1, g2]
  refine ⟨_, (atI_nat (i := 0) rfl : atI _ ((0 : Nat) : Int) = _), ?_⟩
  simp only [wpSs, wpS, wpX, wpL, wpBo, wpO, wpTs, wpJ, wpI, plainX, boolX, noT, varW, List.getElem?_cons_zero, List.getElem?_cons_succ, List.set_cons_zero, List.set_cons_succ, cD, fnEn, view_int, view_bl, view_str, view_non, view_lst, view_tupl, view_ins, view_dct, view_scr, add_int, sub_int, mul_int, mod_int, div_int, idx_lst, idx_tup, wIf_t, wIf_f, lt_int, le_int, gt_int, ge_int, eq_int, ne_int, List.map_cons, List.map_nil, newW, setAll, wTg, lenD, sliD, strD, List.length_cons, List.length_nil, g1, g2]
  rw [cdv_int (by omega)]
  refine ⟨.inr ⟨by omega, Int.lt_of_le_of_lt (show (l : Int) ≤ 20 by omega) (by decide +kernel)⟩, ?_⟩
  have hcB := cdv_le (A := B) (c := l) (by omega)
  cases e : decide (((cdv B l : Nat) : Int) = 0) with
  | true =>
    have e := of_decide_eq_true e
    have hB0 : B = 0 := by
      rcases Nat.eq_zero_or_pos B with z | z
      · exact z
      · have := cdv_pos (c := l) (A := B) (by omega) z
        omega
    subst hB0
    rw [walks_zero (by omega), Int.mul_zero] at h
    exact h
  | false =>
    have e := of_decide_eq_false e
    have hB0 : 0 < B := by
      rcases Nat.eq_zero_or_pos B with z | z
      · subst z
        rw [cdv_zero (by omega)] at e
        exact absurd rfl e
      · exact z
    simp only [wpSs, wpS, wpX, wpL, wpBo, wpO, wpTs, wpJ, wpI, plainX, boolX, noT, varW, List.getElem?_cons_zero, List.getElem?_cons_succ, List.set_cons_zero, List.set_cons_succ, cD, fnEn, view_int, view_bl, view_str, view_non, view_lst, view_tupl, view_ins, view_dct, view_scr, add_int, sub_int, mul_int, mod_int, div_int, idx_lst, idx_tup, wIf_t, wIf_f, lt_int, le_int, gt_int, ge_int, eq_int, ne_int, List.map_cons, List.map_nil, newW, setAll, wTg, lenD, sliD, strD, List.length_cons, List.length_nil, g1, g2]
    refine ⟨l, its, R - 1, by rw [Int.natCast_sub hR1]; rfl, ok, ?_⟩
    have ef : ((U (wsh its) (R - 1) : Nat) : Int) - (B : Int) + 1 = ((U (wsh its) (R - 1) + 1 - B : Nat) : Int) := by omega
    simp only [wpSs, wpS, wpX, wpL, wpBo, wpO, wpTs, wpJ, wpI, plainX, boolX, noT, varW, List.getElem?_cons_zero, List.getElem?_cons_succ, List.set_cons_zero, List.set_cons_succ, cD, fnEn, view_int, view_bl, view_str, view_non, view_lst, view_tupl, view_ins, view_dct, view_scr, add_int, sub_int, mul_int, mod_int, div_int, idx_lst, idx_tup, wIf_t, wIf_f, lt_int, le_int, gt_int, ge_int, eq_int, ne_int, List.map_cons, List.map_nil, newW, setAll, wTg, lenD, sliD, strD, List.length_cons, List.length_nil, g1, g2]
    rw [ef]
    refine ⟨mulok_n (Nat.le_trans (show cdv B l ≤ 10 ^ 35 by omega) (by decide +kernel)) (Nat.le_trans hR (by decide +kernel)), its, l, U (wsh its) (R - 1) + 1 - B, cdv B l, rfl, ok, ⟨l1, l2⟩, fun _ => hs hB0, ⟨by omega, by omega, by omega⟩, ?_⟩
    simp only [wpSs, wpS, wpX, wpL, wpBo, wpO, wpTs, wpJ, wpI, plainX, boolX, noT, varW, List.getElem?_cons_zero, List.getElem?_cons_succ, List.set_cons_zero, List.set_cons_succ, cD, fnEn, view_int, view_bl, view_str, view_non, view_lst, view_tupl, view_ins, view_dct, view_scr, add_int, sub_int, mul_int, mod_int, div_int, idx_lst, idx_tup, wIf_t, wIf_f, lt_int, le_int, gt_int, ge_int, eq_int, ne_int, List.map_cons, List.map_nil, newW, setAll, wTg, lenD, sliD, strD, List.length_cons, List.length_nil]
    refine ⟨mulok_l ⟨by decide, by decide⟩, ?_⟩
    rw [right_eq l1 hB]
    exact h
end Mp.g

set_option Elab.async false
set_option linter.all false
set_option maxRecDepth 100000
set_option maxHeartbeats 1000000
namespace Mp.g
open PySem PySem.Spec L2 Mp
variable {Γ : Specs}
theorem wp_app {Γ : Specs} (b : List MS) (E : En) : ∀ (a : List MS) (ρ : Ro) (C : Cs), wpSs Γ (a ++ b) ρ C E = wpSs Γ a ρ C { E with nx := fun ρ1 C1 => wpSs Γ b ρ1 C1 E }
  | [], ρ, C => by rw [List.nil_append, wpSs]
  | s :: a, ρ, C => by
    rw [List.cons_append, wpSs, wpSs]
    dsimp only
    have e : (fun ρ1 C1 => wpSs Γ (a ++ b) ρ1 C1 E) = fun ρ1 C1 => wpSs Γ a ρ1 C1 { E with nx := fun ρ1 C1 => wpSs Γ b ρ1 C1 E } := by
      funext ρ1 C1
      exact wp_app b E a ρ1 C1
    rw [e]
/-- the first n lines, then the rest -/
theorem cut_at {Γ : Specs} {ms : List MS} {ρ : Ro} {C : Cs} {E : En} (n : Nat) (h : ∀ rest, rest = ms.drop n → wpSs Γ (ms.take n) ρ C { E with nx := fun ρ1 C1 => wpSs Γ rest ρ1 C1 E }) : wpSs Γ ms ρ C E := by
  have := h _ rfl
  rw [← wp_app, List.take_append_drop] at this
  exact this
theorem wipe1 {ρ : Ro} {i : Nat} : wipeD ρ [i] = ρ.set i none := rfl
/-- the last line of a law: all its turns are right -/
theorem law_tail {fr fw i : Nat} {m : Int} {nm : Str} {sr : Spec} (g1 : Γ fr = sr) (g2 : Γ fw = sp_well) (hr : ∀ w e s C P PX, C w = some (wellD e s 0) → (∀ C', P (.bl true) C') → sr [.ref w] C P PX) {ns : List Int} {ρ : Ro} {C : Cs} {E : En}
    (h0 : ρ[0]? = some (some (.scr ns))) (hi : 0 < i) (hi2 : i < ρ.length) (hm : 0 ≤ m ∧ m ≤ 10) (k : ∀ C', E.rt (.bl true) C') :
    wpS Γ (.ret (.bi "all" [(.comp false (.call fr [(.call fw [(.var 0 false), (.var i false)] 0)] 0) (.nm i) (.rng [(.bi "max" [(.cst (.int 2)), (.bi "min" [(.bi "len" [(.var 0 false)]), (.cst (.int m))])])]) [] [(nm, i)])])) ρ C E := by
  simp only [wpSs, wpS, wpX, wpL, wpBo, wpO, wpTs, wpJ, wpI, plainX, boolX, noT, varW, List.getElem?_cons_zero, List.getElem?_cons_succ, List.set_cons_zero, List.set_cons_succ, cD, fnEn, view_int, view_bl, view_str, view_non, view_lst, view_tupl, view_ins, view_dct, view_scr, add_int, sub_int, mul_int, mod_int, div_int, idx_lst, idx_tup, wIf_t, wIf_f, lt_int, le_int, gt_int, ge_int, eq_int, ne_int, List.map_cons, List.map_nil, newW, setAll, wTg, lenD, sliD, strD, List.length_cons, List.length_nil, h0, biD]
  refine ⟨_, rfl, ?_⟩
  simp only [wpSs, wpS, wpX, wpL, wpBo, wpO, wpTs, wpJ, wpI, plainX, boolX, noT, varW, List.getElem?_cons_zero, List.getElem?_cons_succ, List.set_cons_zero, List.set_cons_succ, cD, fnEn, view_int, view_bl, view_str, view_non, view_lst, view_tupl, view_ins, view_dct, view_scr, add_int, sub_int, mul_int, mod_int, div_int, idx_lst, idx_tup, wIf_t, wIf_f, lt_int, le_int, gt_int, ge_int, eq_int, ne_int, List.map_cons, List.map_nil, newW, setAll, wTg, lenD, sliD, strD, List.length_cons, List.length_nil]
  refine .inl ⟨_, _, rfl, ?_⟩
  try simp only [wpSs, wpS, wpX, wpL, wpBo, wpO, wpTs, wpJ, wpI, plainX, boolX, noT, varW, List.getElem?_cons_zero, List.getElem?_cons_succ, List.set_cons_zero, List.set_cons_succ, cD, fnEn, view_int, view_bl, view_str, view_non, view_lst, view_tupl, view_ins, view_dct, view_scr, add_int, sub_int, mul_int, mod_int, div_int, idx_lst, idx_tup, wIf_t, wIf_f, lt_int, le_int, gt_int, ge_int, eq_int, ne_int, List.map_cons, List.map_nil, newW, setAll, wTg, lenD, sliD, strD, List.length_cons, List.length_nil]
  refine .inl ⟨_, _, rfl, ?_⟩
  try simp only [wpSs, wpS, wpX, wpL, wpBo, wpO, wpTs, wpJ, wpI, plainX, boolX, noT, varW, List.getElem?_cons_zero, List.getElem?_cons_succ, List.set_cons_zero, List.set_cons_succ, cD, fnEn, view_int, view_bl, view_str, view_non, view_lst, view_tupl, view_ins, view_dct, view_scr, add_int, sub_int, mul_int, mod_int, div_int, idx_lst, idx_tup, wIf_t, wIf_f, lt_int, le_int, gt_int, ge_int, eq_int, ne_int, List.map_cons, List.map_nil, newW, setAll, wTg, lenD, sliD, strD, List.length_cons, List.length_nil]
  generalize ht : (max (2 : Int) (min (ns.length : Int) m)) = t
  have ht1 : 0 ≤ t ∧ t ≤ 10 := by omega
  simp only [rngD]
  have key : ∀ K : List D → Cs → Prop, (∀ C', K ((rngL 0 1 t.toNat).map fun _ => .bl true) C') → compW (.nm i) (fun ρ C K => K true ρ C)
      (fun ρ C K => (wpX Γ (.call fr [(.call fw [(.var 0 false), (.var i false)] 0)] 0)).val ρ C K xd0) (wipeD ρ [i]) (rngL 0 1 t.toNat) C [] K := by
    intro K hK
    refine comp_mapI (fun _ => True) (fun _ => .bl true) _ [] C trivial ?_ ?_ (fun C' _ => hK C')
    · intro d hd C1 Q E1 _ q
      rw [rngL_map] at hd
      obtain ⟨j, hj, rfl⟩ := List.mem_map.mp hd
      have e0 : ∀ d : D, ((ρ.set i none).set i (some d))[0]? = some (some (.scr ns)) := fun d => by
        rw [List.getElem?_set_ne (by omega), List.getElem?_set_ne (by omega), h0]
      have ei : ∀ d : D, ((ρ.set i none).set i (some d))[i]? = some (some d) := fun d => by
        rw [List.getElem?_set_self (by rw [List.length_set]; exact hi2)]
      simp only [wpSs, wpS, wpX, wpL, wpBo, wpO, wpTs, wpJ, wpI, plainX, boolX, noT, varW, List.getElem?_cons_zero, List.getElem?_cons_succ, List.set_cons_zero, List.set_cons_succ, cD, fnEn, view_int, view_bl, view_str, view_non, view_lst, view_tupl, view_ins, view_dct, view_scr, add_int, sub_int, mul_int, mod_int, div_int, idx_lst, idx_tup, wIf_t, wIf_f, lt_int, le_int, gt_int, ge_int, eq_int, ne_int, List.map_cons, List.map_nil, newW, setAll, wTg, lenD, sliD, strD, List.length_cons, List.length_nil, wipe1, e0, ei, g1, g2]
      refine ⟨ns, _, rfl, by omega, fun a ha e s => ?_⟩
      simp only [wpSs, wpS, wpX, wpL, wpBo, wpO, wpTs, wpJ, wpI, plainX, boolX, noT, varW, List.getElem?_cons_zero, List.getElem?_cons_succ, List.set_cons_zero, List.set_cons_succ, cD, fnEn, view_int, view_bl, view_str, view_non, view_lst, view_tupl, view_ins, view_dct, view_scr, add_int, sub_int, mul_int, mod_int, div_int, idx_lst, idx_tup, wIf_t, wIf_f, lt_int, le_int, gt_int, ge_int, eq_int, ne_int, List.map_cons, List.map_nil, newW, setAll, wTg, lenD, sliD, strD, List.length_cons, List.length_nil]
      exact hr a e s _ _ _ cset_same fun C' => q _ C' trivial
    · rw [rngL_len]
      exact Nat.le_trans (show _ ≤ 10 by simp; omega) (by decide)
  refine key _ fun C' => ?_
  refine ⟨_, .inl rfl, ?_, ?_⟩
  · rw [List.all_eq_true]
    intro d hd
    obtain ⟨_, _, rfl⟩ := List.mem_map.mp hd
    rfl
  · have : (((rngL 0 1 t.toNat).map fun _ => D.bl true).all truD) = true := by
      rw [List.all_eq_true]
      intro d hd
      obtain ⟨_, _, rfl⟩ := List.mem_map.mp hd
      rfl
    rw [this]
    exact k C'
/-- a garden made of its text; all that stood, stands -/
theorem mk_garden {c l : Nat} {its : List (Option Nat)} (h1 : 1 ≤ l ∧ l ≤ 20) (ok : okIts 9 its) {C : Cs} {ρ : Ro} {K : KE} {X : Exc → Cs → Prop} (k : ∀ C', (∀ b o, C b = some o → C' b = some o) → K (gard c (.str (textT l its)) l its) ρ C') :
    ∀ a, C a = none → sp_Garden_init c [.ref a, .str (textT l its)] (cset C a (.ins c [])) (fun r C2 => r = .non ∧ madeW false c a ρ C2 K) X := fun a ha => by
  refine ⟨a, l, its, rfl, h1, ok, cset_same, fun a2 ha2 => ⟨rfl, ?_⟩⟩
  have hne : a ≠ a2 := fun e => by rw [← e, cset_same] at ha2; cases ha2
  refine ⟨_, by rw [cset_ne hne]; exact cset_same, k _ fun b o hb => ?_⟩
  have b1 : b ≠ a := fun e => by rw [e, ha] at hb; cases hb
  have b2 : b ≠ a2 := fun e => by rw [← e, cset_ne b1, hb] at ha2; cases ha2
  rw [cdel_ne b1, cset_ne b2, cset_ne b1, cset_ne b1]
  exact hb
theorem mem_le_sum {x : Nat} : ∀ {w : List Nat}, x ∈ w → x ≤ w.sum
  | a :: w, h => by
    rw [List.sum_cons]
    rcases List.mem_cons.mp h with rfl | h
    · omega
    · have := mem_le_sum h
      omega
def sp_law : Spec := fun ds C P _ => ∃ ns, ds = [.scr ns] ∧ ∀ C', P (.bl true) C'
def sp_right : Spec := fun ds C P _ => ∃ w a s t, ds = [.ref w] ∧ C w = some (wellD a s t) ∧ ∀ C', P (.bl true) C'
theorem right_of (w : Addr) (e s : Int) (C : Cs) (P : D → Cs → Prop) (PX : Exc → Cs → Prop) (h : C w = some (wellD e s 0)) (k : ∀ C', P (.bl true) C') : sp_right [.ref w] C P PX := ⟨w, e, s, 0, rfl, h, k⟩
end Mp.g

set_option Elab.async false
set_option linter.all false
set_option maxRecDepth 100000
set_option maxHeartbeats 1000000
/-! plain laws: walks compared; a row of items turned about -/
namespace Mp.g
theorem cdv_mono {A B c : Nat} (h : A ≤ B) : cdv A c ≤ cdv B c := Nat.div_le_div_right (by omega)
theorem walks_mono {p : Nat → Int} {c A B : Nat} (hc : 0 < c) (h : A ≤ B) (h0 : ∀ b, 1 ≤ b → b ≤ B → 0 ≤ p b) (hm : ∀ a b, 1 ≤ a → a ≤ b → b ≤ B → p a ≤ p b) : walks p c A ≤ walks p c B := by
  unfold walks
  obtain ⟨k, hk⟩ : ∃ k, cdv B c = cdv A c + k := ⟨cdv B c - cdv A c, by have := cdv_mono (c := c) h; omega⟩
  rw [hk, sm_add]
  have h1 : sm (fun k => p (A - k * c)) (cdv A c) ≤ sm (fun k => p (B - k * c)) (cdv A c) := sm_le fun i hi => by
    have := cdv_lt hc hi
    exact hm _ _ (by omega) (by omega) (by omega)
  have h2 : 0 ≤ sm (fun i => p (B - (cdv A c + i) * c)) k := sm_nonneg fun i hi => by
    have := cdv_lt (A := B) (k := cdv A c + i) hc (by omega)
    exact h0 _ (by omega) (by omega)
  omega
theorem walks_can {p : Nat → Int} {c A : Nat} (hc : 0 < c) (h0 : ∀ b, 1 ≤ b → b ≤ A → 0 ≤ p b) (hm : ∀ a b, 1 ≤ a → a ≤ b → b ≤ A → p a ≤ p b) : walks p (c + 1) A ≤ walks p c A := by
  have hle : cdv A (c + 1) ≤ cdv A c := by
    rcases Nat.lt_or_ge (cdv A c) (cdv A (c + 1)) with q | q
    · have h1 := cdv_lt (A := A) (c := c + 1) (by omega) q
      have h2 := cdv_ge (A := A) hc
      rw [Nat.mul_add] at h1
      omega
    · exact q
  unfold walks
  obtain ⟨k, hk⟩ : ∃ k, cdv A c = cdv A (c + 1) + k := ⟨cdv A c - cdv A (c + 1), by omega⟩
  rw [hk, sm_add]
  have h1 : sm (fun k => p (A - k * (c + 1))) (cdv A (c + 1)) ≤ sm (fun k => p (A - k * c)) (cdv A (c + 1)) := sm_le fun i hi => by
    have := cdv_lt (A := A) (c := c + 1) (by omega) hi
    rw [Nat.mul_add] at this ⊢
    exact hm _ _ (by omega) (by omega) (by omega)
  have h2 : 0 ≤ sm (fun i => p (A - (cdv A (c + 1) + i) * c)) k := sm_nonneg fun i hi => by
    have := cdv_lt (A := A) (k := cdv A (c + 1) + i) hc (by omega)
    exact h0 _ (by omega) (by omega)
  omega
theorem walks_first {p : Nat → Int} {c A : Nat} (hc : 0 < c) (hA : 0 < A) (h0 : ∀ b, 1 ≤ b → b ≤ A → 0 ≤ p b) : p A ≤ walks p c A := by
  rw [walks_pos hc hA]
  have : 0 ≤ walks p c (A - c) := sm_nonneg fun i hi => by
    have := cdv_lt hc hi
    exact h0 _ (by omega) (by omega)
  omega
/-- the same row shifted by w litres, each a step farther -/
theorem walks_shift {p q : Nat → Int} {c B v : Nat} (hc : 0 < c) (h0 : ∀ b, 1 ≤ b → b ≤ B + v → 0 ≤ q b) (hq : ∀ b, 1 ≤ b → b ≤ B → p b ≤ q (b + v)) : walks p c B ≤ walks q c (B + v) := by
  unfold walks
  obtain ⟨k, hk⟩ : ∃ k, cdv (B + v) c = cdv B c + k := ⟨cdv (B + v) c - cdv B c, by have := cdv_mono (c := c) (Nat.le_add_right B v); omega⟩
  rw [hk, sm_add]
  have h1 : sm (fun k => p (B - k * c)) (cdv B c) ≤ sm (fun k => q (B + v - k * c)) (cdv B c) := sm_le fun i hi => by
    have := cdv_lt hc hi
    have e : B + v - i * c = (B - i * c) + v := by omega
    rw [e]
    exact hq _ (by omega) (by omega)
  have h2 : 0 ≤ sm (fun i => q (B + v - (cdv B c + i) * c)) k := sm_nonneg fun i hi => by
    have := cdv_lt (A := B + v) (k := cdv B c + i) hc (by omega)
    exact h0 _ (by omega) (by omega)
  omega
/-! ### whole rounds -/
theorem U_whole {w : List Nat} (h0 : 0 < w.length) (a : Nat) : U w (a * w.length) = a * w.sum := by
  have := U_at a 0 h0 (Nat.zero_le _)
  simpa using this
theorem getD_rev {w : List Nat} {i : Nat} (h : i < w.length) : w.reverse[i]'(by rw [List.length_reverse]; exact h) = w[w.length - 1 - i]'(by omega) := by
  rw [List.getElem_reverse]
theorem U_rev {w : List Nat} (h0 : 0 < w.length) (k : Nat) : ∀ p, p ≤ k * w.length → U w.reverse p + U w (k * w.length - p) = k * w.sum
  | 0, _ => by rw [U_zero, Nat.sub_zero, U_whole h0, Nat.zero_add]
  | p + 1, hp => by
    have ih := U_rev h0 k p (by omega)
    have h0' : 0 < w.reverse.length := by rw [List.length_reverse]; exact h0
    rw [U_succ p h0']
    have e1 : k * w.length - p = (k * w.length - (p + 1)) + 1 := by omega
    rw [e1, U_succ _ h0] at ih
    have hm := Nat.mod_lt p h0
    have e2 : w.reverse[p % w.reverse.length]'(Nat.mod_lt _ h0') = w[(k * w.length - (p + 1)) % w.length]'(Nat.mod_lt _ h0) := by
      rw [List.getElem_reverse]
      congr 1
      rw [List.length_reverse]
      have d := Nat.div_add_mod p w.length
      have e3 : k * w.length - (p + 1) = (w.length - 1 - p % w.length) + (k - 1 - p / w.length) * w.length := by
        have hq : p / w.length < k := (Nat.div_lt_iff_lt_mul h0).mpr (by omega)
        obtain ⟨j, hj⟩ : ∃ j, k = p / w.length + 1 + j := ⟨k - 1 - p / w.length, by omega⟩
        have e4 : k * w.length = w.length * (p / w.length) + w.length + j * w.length := by
          conv => lhs; rw [hj]
          rw [Nat.add_mul, Nat.add_mul, Nat.one_mul, Nat.mul_comm (p / w.length)]
        have e5 : k - 1 - p / w.length = j := by omega
        rw [e5]
        omega
      rw [e3, Nat.add_mul_mod_self_right, Nat.mod_eq_of_lt (show w.length - 1 - p % w.length < w.length by omega)]
    rw [e2]
    omega
theorem pl_rev {w : List Nat} (hs : 0 < w.sum) (k : Nat) {b : Nat} (h1 : 1 ≤ b) (hb : b ≤ k * w.sum) : pl w.reverse b + pl w (k * w.sum + 1 - b) = k * w.length + 1 := by
  have h0 := sum_len hs
  have h0' : 0 < w.reverse.length := by rw [List.length_reverse]; exact h0
  have hs' : 0 < w.reverse.sum := by rw [List.sum_reverse]; exact hs
  obtain ⟨q1, q2, q3⟩ := pl_ok (n := k * w.sum + 1 - b) hs (by omega)
  have hq : pl w (k * w.sum + 1 - b) ≤ k * w.length := pl_lt hs (by omega) (by rw [U_whole h0]; omega)
  generalize pl w (k * w.sum + 1 - b) = q at *
  have e : pl w.reverse b = k * w.length + 1 - q := by
    refine pl_uniq h0' (pl_ok hs' h1) ⟨by omega, ?_, ?_⟩
    · have := U_rev h0 k (k * w.length + 1 - q - 1) (by omega)
      rw [show k * w.length - (k * w.length + 1 - q - 1) = q by omega] at this
      omega
    · have := U_rev h0 k (k * w.length + 1 - q) (by omega)
      rw [show k * w.length - (k * w.length + 1 - q) = q - 1 by omega] at this
      omega
  omega
/-- the place of a round's last litre -/
theorem pl_last {w : List Nat} {m : Nat} (hm : m < w.length) (hp : 0 < w[m]) (hz : ∀ k, m < k → ∀ h : k < w.length, w[k] = 0) : pl w w.sum = m + 1 := by
  have h0 : 0 < w.length := by omega
  have tz : ∀ j, m + 1 + j ≤ w.length → (w.take (m + 1 + j)).sum = (w.take (m + 1)).sum := by
    intro j
    induction j with
    | zero => intro _; rfl
    | succ j ih =>
      intro hj
      rw [← Nat.add_assoc, take_succ_sum w _ (by omega), hz _ (by omega) (by omega), Nat.add_zero]
      exact ih (by omega)
  have e1 : (w.take (m + 1)).sum = w.sum := by
    have := tz (w.length - (m + 1)) (by omega)
    rw [show m + 1 + (w.length - (m + 1)) = w.length by omega, take_len] at this
    exact this.symm
  have e2 := take_succ_sum w m hm
  have hs : 0 < w.sum := by omega
  refine pl_uniq h0 (pl_ok hs (by omega)) ⟨by omega, ?_, ?_⟩
  · have := U_at (w := w) 0 m h0 (by omega)
    rw [Nat.zero_mul, Nat.zero_add, Nat.zero_mul, Nat.zero_add] at this
    rw [Nat.add_sub_cancel, this]
    omega
  · have := U_at (w := w) 0 (m + 1) h0 (by omega)
    rw [Nat.zero_mul, Nat.zero_add, Nat.zero_mul, Nat.zero_add] at this
    rw [this, e1]
    exact Nat.le_refl _
theorem pos_of_sum : ∀ {w : List Nat}, 0 < w.sum → ∃ i, i < w.length ∧ 0 < w.getD i 0
  | [], h => absurd h (Nat.lt_irrefl 0)
  | a :: w, h => by
    rw [List.sum_cons] at h
    rcases Nat.eq_zero_or_pos a with z | z
    · obtain ⟨i, h1, h2⟩ := pos_of_sum (w := w) (by omega)
      exact ⟨i + 1, by rw [List.length_cons]; omega, by simpa using h2⟩
    · exact ⟨0, by rw [List.length_cons]; omega, by simpa using z⟩
end Mp.g

set_option Elab.async false
set_option linter.all false
set_option maxRecDepth 100000
set_option maxHeartbeats 1000000
namespace Mp.g
open PySem PySem.Spec L2 Mp
variable {Γ : Specs}
theorem empty_app (a : Str) : Str.empty ++ a = a := str_ext (by rw [app_list]; rfl)
def sp_text_of : Spec := fun ds C P _ => ∃ (l : Nat) (its : List (Option Nat)), ds = [.int l, .tup (its.map itD)] ∧ (1 ≤ l ∧ l ≤ 20) ∧ okIts 9 its ∧ P (.str (textT l its)) C
theorem p_text_of (ds C Q PX) (h : sp_text_of ds C Q PX) : wpSs Γ m_text_of (ro0 n_text_of ds) C (fnEn Q PX) := by
  obtain ⟨l, its, rfl, ⟨h1, h2⟩, ok, h⟩ := h
  unfold m_text_of
  rw [show ro0 n_text_of [.int l, .tup (its.map itD)] = [some (.int l), some (.tup (its.map itD)), none, none] from rfl]
  simp only [wpSs, wpS, wpX, wpL, wpBo, wpO, wpTs, wpJ, wpI, plainX, boolX, noT, varW, List.getElem?_cons_zero, List.getElem?_cons_succ, List.set_cons_zero, List.set_cons_succ, cD, fnEn, view_int, view_bl, view_str, view_non, view_lst, view_tupl, view_ins, view_dct, view_scr, add_int, sub_int, mul_int, mod_int, div_int, idx_lst, idx_tup, wIf_t, wIf_f, lt_int, le_int, gt_int, ge_int, eq_int, ne_int, List.map_cons, List.map_nil, newW, setAll, wTg, lenD, sliD, strD, List.length_cons, List.length_nil, itsD]
  let wf : D → D := fun d => match d with
    | .int i => .str (toString i : String)
    | _ => .str (("tap" : String) : Str)
  refine comp_map wf (fun d hd Q E q => ?_) (by rw [List.length_map]; exact Nat.le_trans ok.2.1 (by decide)) ?_
  · obtain ⟨o, ho, rfl⟩ := List.mem_map.mp hd
    simp only [wpSs, wpS, wpX, wpL, wpBo, wpO, wpTs, wpJ, wpI, plainX, boolX, noT, varW, List.getElem?_cons_zero, List.getElem?_cons_succ, List.set_cons_zero, List.set_cons_succ, cD, fnEn, view_int, view_bl, view_str, view_non, view_lst, view_tupl, view_ins, view_dct, view_scr, add_int, sub_int, mul_int, mod_int, div_int, idx_lst, idx_tup, wIf_t, wIf_f, lt_int, le_int, gt_int, ge_int, eq_int, ne_int, List.map_cons, List.map_nil, newW, setAll, wTg, lenD, sliD, strD, List.length_cons, List.length_nil, wipeD, List.foldl]
    cases o with
    | none => exact q _
    | some n =>
      have n9 := ok.2.2 _ ho n rfl
      exact ⟨_, rfl, (show ∀ l : Nat, l ≤ 9 → (l : Int).natAbs.log2 < 1920 by decide +kernel) n n9, q _⟩
  have e : (its.map itD).map wf = (its.map wrd).map D.str := by
    rw [List.map_map, List.map_map]
    refine List.map_congr_left fun o _ => ?_
    cases o <;> rfl
  rw [e]
  have sp1 : (((" " : String) : Str)).length = 1 := by decide +kernel
  have sl := sum_le_of (ys := its.map wrd) (m := 3) fun p hp => by
    obtain ⟨o, ho, rfl⟩ := List.mem_map.mp hp
    exact (wrd_ok ok o ho).2.2
  have h12 := ok.2.1
  have tl := text_len h1 h2 ok
  have al : ∀ a b : Str, (a ++ b).length = a.length + b.length := fun a b => Array.size_append
  have ht := tl
  unfold textT at ht
  rw [al, al, al] at ht
  refine ⟨_, _, rfl, rfl, ?_, ?_⟩
  · rw [sp1]
    rw [List.length_map] at *
    omega
  simp only [wpSs, wpS, wpX, wpL, wpBo, wpO, wpTs, wpJ, wpI, plainX, boolX, noT, varW, List.getElem?_cons_zero, List.getElem?_cons_succ, List.set_cons_zero, List.set_cons_succ, cD, fnEn, view_int, view_bl, view_str, view_non, view_lst, view_tupl, view_ins, view_dct, view_scr, add_int, sub_int, mul_int, mod_int, div_int, idx_lst, idx_tup, wIf_t, wIf_f, lt_int, le_int, gt_int, ge_int, eq_int, ne_int, List.map_cons, List.map_nil, newW, setAll, wTg, lenD, sliD, strD, List.length_cons, List.length_nil]
  rw [empty_app]
  have sz : (120 : Nat) ≤ sizeLine := by decide
  refine ⟨by omega, (show ∀ l : Nat, l ≤ 20 → (l : Int).natAbs.log2 < 1920 by decide +kernel) l h2, by rw [al]; omega, by rw [al, al]; omega, by omega, by rw [al, al, al]; omega, ?_⟩
  exact h
def sp_with_can (c : Nat) : Spec := fun ds C P _ => ∃ t l its, ∃ k : Nat, ds = [gard c t l its, .int k] ∧ (1 ≤ k ∧ k ≤ 20) ∧ okIts 9 its ∧ ∀ C', (∀ b o, C b = some o → C' b = some o) → P (gard c (.str (textT k its)) k its) C'
theorem p_Garden_with_can {c_Garden f_Garden_init f_check_number f_text_of : Nat} (g1 : Γ f_Garden_init = sp_Garden_init c_Garden) (g2 : Γ f_check_number = sp_check_number) (g3 : Γ f_text_of = sp_text_of) (ds C Q PX) (h : sp_with_can c_Garden ds C Q PX) :
    wpSs Γ (m_Garden_with_can c_Garden f_Garden_init f_check_number f_text_of) (ro0 n_Garden_with_can ds) C (fnEn Q PX) := by
  obtain ⟨t, l, its, k, rfl, ⟨k1, k2⟩, ok, h⟩ := h
  unfold m_Garden_with_can
  rw [show ro0 n_Garden_with_can [gard c_Garden t l its, .int k] = [some (gard c_Garden t l its), some (.int k)] from rfl]
  simp only [wpSs, wpS, wpX, wpL, wpBo, wpO, wpTs, wpJ, wpI, plainX, boolX, noT, varW, List.getElem?_cons_zero, List.getElem?_cons_succ, List.set_cons_zero, List.set_cons_succ, cD, fnEn, view_int, view_bl, view_str, view_non, view_lst, view_tupl, view_ins, view_dct, view_scr, add_int, sub_int, mul_int, mod_int, div_int, idx_lst, idx_tup, wIf_t, wIf_f, lt_int, le_int, gt_int, ge_int, eq_int, ne_int, List.map_cons, List.map_nil, newW, setAll, wTg, lenD, sliD, strD, List.length_cons, List.length_nil, g1, g2, g3, fldD]
  refine ⟨_, _, _, rfl, by omega, by omega, trivial, k, its, rfl, ⟨k1, k2⟩, ok, ?_⟩
  exact mk_garden ⟨k1, k2⟩ ok fun C' hC' => h C' hC'
def sp_lgarden (c : Nat) : Spec := fun ds C P _ => ∃ (l : Nat) (its : List (Option Nat)), ds = [sketD l its] ∧ (1 ≤ l ∧ l ≤ 20) ∧ okIts 9 its ∧ ∀ C', (∀ b o, C b = some o → C' b = some o) → P (gard c (.str (textT l its)) l its) C'
theorem p__law_garden {c_Garden f_Garden_init f__law_text : Nat} (g1 : Γ f_Garden_init = sp_Garden_init c_Garden) (g2 : Γ f__law_text = sp_text) (ds C Q PX) (h : sp_lgarden c_Garden ds C Q PX) :
    wpSs Γ (m__law_garden c_Garden f_Garden_init f__law_text) (ro0 n__law_garden ds) C (fnEn Q PX) := by
  obtain ⟨l, its, rfl, l12, ok, h⟩ := h
  unfold m__law_garden
  rw [show ro0 n__law_garden [sketD l its] = [some (sketD l its)] from rfl]
  simp only [wpSs, wpS, wpX, wpL, wpBo, wpO, wpTs, wpJ, wpI, plainX, boolX, noT, varW, List.getElem?_cons_zero, List.getElem?_cons_succ, List.set_cons_zero, List.set_cons_succ, cD, fnEn, view_int, view_bl, view_str, view_non, view_lst, view_tupl, view_ins, view_dct, view_scr, add_int, sub_int, mul_int, mod_int, div_int, idx_lst, idx_tup, wIf_t, wIf_f, lt_int, le_int, gt_int, ge_int, eq_int, ne_int, List.map_cons, List.map_nil, newW, setAll, wTg, lenD, sliD, strD, List.length_cons, List.length_nil, g1, g2]
  refine ⟨l, its, rfl, l12, ok, ?_⟩
  exact mk_garden l12 ok fun C' hC' => h C' hC'
theorem p_Garden_text {c_Garden : Nat} (ds C Q PX) (h : (fun ds C P _ => ∃ t l p, ds = [.ins c_Garden [t, l, p]] ∧ P t C : Spec) ds C Q PX) : wpSs Γ (m_Garden_text c_Garden) (ro0 n_Garden_text ds) C (fnEn Q PX) := by
  obtain ⟨t, l, p, rfl, h⟩ := h
  unfold m_Garden_text
  rw [show ro0 n_Garden_text [.ins c_Garden [t, l, p]] = [some (.ins c_Garden [t, l, p])] from rfl]
  simp only [wpSs, wpS, wpX, wpL, wpBo, wpO, wpTs, wpJ, wpI, plainX, boolX, noT, varW, List.getElem?_cons_zero, List.getElem?_cons_succ, List.set_cons_zero, List.set_cons_succ, cD, fnEn, view_int, view_bl, view_str, view_non, view_lst, view_tupl, view_ins, view_dct, view_scr, add_int, sub_int, mul_int, mod_int, div_int, idx_lst, idx_tup, wIf_t, wIf_f, lt_int, le_int, gt_int, ge_int, eq_int, ne_int, List.map_cons, List.map_nil, newW, setAll, wTg, lenD, sliD, strD, List.length_cons, List.length_nil]
  exact ⟨rfl, h⟩
/-! ### what gaps cost, compared -/
section
variable {w : List Nat} {L R : Nat}
theorem pL_mono (hs : 0 < w.sum) {a b : Nat} (h1 : 1 ≤ a) (h : a ≤ b) : pL w L a ≤ pL w L b := by
  have := pl_mono (w := w) (n := U w L + a) (m := U w L + b) hs (by omega) (by omega)
  unfold pL
  omega
theorem pL_pos (hs : 0 < w.sum) {b : Nat} (h1 : 1 ≤ b) : 0 ≤ pL w L b := by
  have := pl_gt (w := w) (n := U w L + b) (p := L) hs (by omega)
  unfold pL
  omega
theorem pR_mono (hs : 0 < w.sum) {a b : Nat} (h : a ≤ b) (hb : b ≤ U w (R - 1)) : pR w R a ≤ pR w R b := by
  have := pl_mono (w := w) (n := U w (R - 1) + 1 - b) (m := U w (R - 1) + 1 - a) hs (by omega) (by omega)
  unfold pR
  omega
theorem pR_pos (hs : 0 < w.sum) (hR : 1 ≤ R) {b : Nat} (h1 : 1 ≤ b) (hb : b ≤ U w (R - 1)) : 0 ≤ pR w R b := by
  have := pl_lt (w := w) (n := U w (R - 1) + 1 - b) (p := R - 1) hs (by omega) (by omega)
  unfold pR
  omega
end
theorem mny_le {w : List Nat} {L R : Nat} : mny w L R ≤ U w (R - 1) := Nat.sub_le _ _
/-- a greater can never costs more -/
theorem best_can {its : List (Option Nat)} {l L R x y : Nat} (hl : 1 ≤ l) (hR : 1 ≤ R) (hs : 0 < (wsh its).sum) (hx : Best its l L R x) (hy : Best its (l + 1) L R y) :
    gcost its (l + 1) L R (mny (wsh its) L R - 2 * (l + 1)) y ≤ gcost its l L R (mny (wsh its) L R - 2 * l) x := by
  have hM := mny_le (w := wsh its) (L := L) (R := R)
  obtain ⟨hx1, _⟩ := hx
  refine Int.le_trans (hy.2 (min x (mny (wsh its) L R - 2 * (l + 1))) (by omega)) ?_
  unfold gcost cost
  have a1 := walks_can (p := pL (wsh its) L) (c := l) (A := min x (mny (wsh its) L R - 2 * (l + 1))) hl (fun b h1 _ => pL_pos hs h1) fun a b h1 h _ => pL_mono hs h1 h
  have a2 := walks_mono (p := pL (wsh its) L) (c := l) (A := min x (mny (wsh its) L R - 2 * (l + 1))) (B := x) hl (Nat.min_le_left _ _) (fun b h1 _ => pL_pos hs h1) fun a b h1 h _ => pL_mono hs h1 h
  have b1 := walks_can (p := pR (wsh its) R) (c := l) (A := mny (wsh its) L R - 2 * (l + 1) - min x (mny (wsh its) L R - 2 * (l + 1))) hl (fun b h1 h2 => pR_pos hs hR h1 (by omega)) fun a b h1 h h2 => pR_mono hs h (by omega)
  have b2 := walks_mono (p := pR (wsh its) R) (c := l) (A := mny (wsh its) L R - 2 * (l + 1) - min x (mny (wsh its) L R - 2 * (l + 1))) (B := mny (wsh its) L R - 2 * l - x) hl (by omega) (fun b h1 h2 => pR_pos hs hR h1 (by omega)) fun a b h1 h h2 => pR_mono hs h (by omega)
  omega
/-- a longer gap never costs less -/
theorem best_longer {its : List (Option Nat)} {l L R x y : Nat} (hl : 1 ≤ l) (hlr : L < R) (hlen : 0 < (wsh its).length) (hs : 0 < (wsh its).sum) (hx : Best its l L R x) (hy : Best its l L (R + 1) y) :
    gcost its l L R (mny (wsh its) L R - 2 * l) x ≤ 1 + gcost its l L (R + 1) (mny (wsh its) L (R + 1) - 2 * l) y := by
  have hM := mny_le (w := wsh its) (L := L) (R := R)
  have hM' := mny_le (w := wsh its) (L := L) (R := R + 1)
  have hU := U_mono1 (w := wsh its) (R - 1) hlen
  rw [Nat.sub_add_cancel (show 1 ≤ R by omega)] at hU
  obtain ⟨v, hv⟩ : ∃ v, U (wsh its) R = U (wsh its) (R - 1) + v := ⟨U (wsh its) R - U (wsh its) (R - 1), by omega⟩
  have hUL := U_mono (w := wsh its) hlen (show L ≤ R - 1 by omega)
  have hm2 : mny (wsh its) L (R + 1) = mny (wsh its) L R + v := by
    unfold mny
    rw [Nat.add_sub_cancel, hv]
    omega
  obtain ⟨hy1, _⟩ := hy
  refine Int.le_trans (hx.2 (min y (mny (wsh its) L R - 2 * l)) (by omega)) ?_
  unfold gcost cost
  have a2 := walks_mono (p := pL (wsh its) L) (c := l) (A := min y (mny (wsh its) L R - 2 * l)) (B := y) hl (Nat.min_le_left _ _) (fun b h1 _ => pL_pos hs h1) fun a b h1 h _ => pL_mono hs h1 h
  have q0 : ∀ b, 1 ≤ b → b ≤ U (wsh its) R → 0 ≤ pR (wsh its) (R + 1) b := fun b h1 h2 => pR_pos hs (by omega) h1 (by rw [Nat.add_sub_cancel]; exact h2)
  have b2 : walks (pR (wsh its) R) l (mny (wsh its) L R - 2 * l - min y (mny (wsh its) L R - 2 * l)) ≤ walks (pR (wsh its) (R + 1)) l (mny (wsh its) L (R + 1) - 2 * l - y) := by
    rcases Nat.lt_or_ge (mny (wsh its) L R - 2 * l) y with q | q
    · rw [Nat.min_eq_right (by omega), Nat.sub_self, walks_zero hl]
      exact sm_nonneg fun i hi => by
        have := cdv_lt hl hi
        exact q0 _ (by omega) (by omega)
    · rw [Nat.min_eq_left q]
      rcases Nat.lt_or_ge (mny (wsh its) L R) (2 * l) with z | z
      · rw [show mny (wsh its) L R - 2 * l - y = 0 by omega, walks_zero hl]
        exact sm_nonneg fun i hi => by
          have := cdv_lt hl hi
          exact q0 _ (by omega) (by omega)
      · have e : mny (wsh its) L (R + 1) - 2 * l - y = (mny (wsh its) L R - 2 * l - y) + v := by omega
        rw [e]
        refine walks_shift hl (fun b h1 h2 => q0 b h1 (by omega)) fun b h1 h2 => ?_
        unfold pR
        rw [Nat.add_sub_cancel, hv, show U (wsh its) (R - 1) + v + 1 - (b + v) = U (wsh its) (R - 1) + 1 - b by omega]
        omega
  omega
end Mp.g

set_option Elab.async false
set_option linter.all false
set_option maxRecDepth 100000
set_option maxHeartbeats 4000000
/-! the tables of law_k02_gardens_made, printed by gen.py -/
namespace Mp.k02
open PySem PySem.Spec L2 Mp Mp.g
/-- Garden.__str__(self) -/
def n_Garden___str__ : List Str := ["self"]
def m_Garden___str__ (c_Garden : Nat) : List MS := [
    (.ret (.sstr (.fld (.var 0 false) c_Garden 0)))]
/-- Garden.__repr__(self) -/
def n_Garden___repr__ : List Str := ["self"]
def m_Garden___repr__ (c_Garden : Nat) : List MS := [
    (.ret (.fstr [(.cst (.str "Garden of ")), (.fmt (.bi "len" [(.fld (.var 0 false) c_Garden 2)])), (.cst (.str " items"))]))]
/-- Garden.__eq__(self, other) -/
def n_Garden___eq__ : List Str := ["self", "other"]
def m_Garden___eq__ (c_Garden : Nat) : List MS := [
    (.ret (.bo .And [(.isC (.var 1 false) c_Garden), (.cmp .Eq (.fld (.var 0 false) c_Garden 0) (.fld (.var 1 false) c_Garden 0))]))]
/-- _law_right(_law_well_here) -/
def n__law_right : List Str := ["_law_well_here", "_law_turn", "_law_sketch_here", "_law_sheet", "_law_told", "_law_mates", "_law_mate", "_law_mine", "_law_twin"]
def m__law_right (c_Garden f_Garden___eq__ f_Garden___repr__ f_Garden___str__ f_Garden_beds f_Garden_can f_Garden_init f_Garden_text f__law_sketch f__law_text : Nat) : List MS := [
    (.for (.nm 1) (.rng [(.cst (.int 4))]) [(.asg 2 (.call f__law_sketch [(.var 0 false), (.cst (.int 20)), (.cst (.int 12)), (.cst (.int 9)), (.cst (.bool true))] 0)), (.asg 3 (.call f__law_text [(.var 2 false)] 0)), (.par [7, 8] [(.make false c_Garden f_Garden_init [(.var 3 false)] 0), (.makek false c_Garden f_Garden_init [] ["text"] [(.var 3 false)] [0])]), (.asg 4 (.lst false [(.prop (.var 7 false) c_Garden f_Garden_text), (.prop (.var 7 false) c_Garden f_Garden_can), (.prop (.var 7 false) c_Garden f_Garden_beds), (.ostr false (.var 7 false) c_Garden f_Garden___str__), (.ostr true (.var 7 false) c_Garden f_Garden___repr__)])), (.ite (.cmp .NotEq (.bi "repr" [(.var 4 false)]) (.bi "repr" [(.lst false [(.var 3 false), (.idx (.var 2 false) (.cst (.int 0))), (.bi "tuple" [(.idx (.var 2 false) (.cst (.int 1)))]), (.var 3 false), (.bin .Add (.bin .Add (.cst (.str "Garden of ")) (.bi "str" [(.bi "len" [(.idx (.var 2 false) (.cst (.int 1)))])])) (.cst (.str " items")))])])) [(.ret (.cst (.bool false)))] []), (.ite (.bo .Or [(.not (.ocmp true (.var 7 false) (.var 8 false) c_Garden f_Garden___eq__)), (.ocmp false (.var 7 false) (.var 8 false) c_Garden f_Garden___eq__), (.not (.obool (.var 7 false) c_Garden))]) [(.ret (.cst (.bool false)))] []), (.asg 5 (.lst true [(.make false c_Garden f_Garden_init [(.call f__law_text [(.lst false [(.bin .Add (.bin .Mod (.idx (.var 2 false) (.cst (.int 0))) (.cst (.int 20))) (.cst (.int 1))), (.idx (.var 2 false) (.cst (.int 1)))])] 0)] 0)])), (.expr (.app (.var 5 false) (.ite (.cmp .Lt (.bi "len" [(.idx (.var 2 false) (.cst (.int 1)))]) (.cst (.int 12))) (.make false c_Garden f_Garden_init [(.call f__law_text [(.lst false [(.idx (.var 2 false) (.cst (.int 0))), (.slice (.bin .Add (.idx (.var 2 false) (.cst (.int 1))) (.lst false [(.cst .none)])) (some (.neg (.cst (.int 12)))) none)])] 0)] 0) (.idx (.var 5 false) (.cst (.int 0)))))), (.expr (.app (.var 5 false) (.make false c_Garden f_Garden_init [(.call f__law_text [(.lst false [(.idx (.var 2 false) (.cst (.int 0))), (.bin .Add (.lst false [(.ite (.cmp .IsNot (.idx (.idx (.var 2 false) (.cst (.int 1))) (.cst (.int 0))) (.cst .none)) (.cst .none) (.cst (.int 0)))]) (.slice (.idx (.var 2 false) (.cst (.int 1))) (some (.cst (.int 1))) none))])] 0)] 0))), (.for (.nm 6) (.it (.var 5 true)) [(.ite (.bo .Or [(.ocmp true (.var 7 false) (.var 6 false) c_Garden f_Garden___eq__), (.not (.ocmp false (.var 6 false) (.var 7 false) c_Garden f_Garden___eq__))]) [(.ret (.cst (.bool false)))] [])]), (.ite (.cmp .NotEq (.lst false [(.ocmp true (.var 7 false) (.var 3 false) c_Garden f_Garden___eq__), (.ocmp true (.var 7 false) (.cst .none) c_Garden f_Garden___eq__), (.ocmp false (.var 7 false) (.prop (.var 7 false) c_Garden f_Garden_beds) c_Garden f_Garden___eq__), (.ocmp true (.var 7 false) (.tup [(.var 3 false)]) c_Garden f_Garden___eq__)]) (.lst false [(.cst (.bool false)), (.cst (.bool false)), (.cst (.bool true)), (.cst (.bool false))])) [(.ret (.cst (.bool false)))] [])]),
    (.ret (.cst (.bool true)))]
/-- law(_law_script) -/
def n_law : List Str := ["_law_script", "_law_turn"]
def m_law (f__law_right f__law_well : Nat) : List MS := [
    (.ret (.bi "all" [(.comp false (.call f__law_right [(.call f__law_well [(.var 0 false), (.var 1 false)] 0)] 0) (.nm 1) (.rng [(.bi "max" [(.cst (.int 2)), (.bi "min" [(.bi "len" [(.var 0 false)]), (.cst (.int 4))])])]) [] [("_law_turn", 1)])]))]
end Mp.k02

set_option Elab.async false
set_option linter.all false
set_option maxRecDepth 100000
set_option maxHeartbeats 1000000
namespace Mp.k02
open PySem PySem.Spec L2 Mp Mp.g
variable {Γ : Specs}
/-! texts are told apart -/
theorem canT_inj : ∀ a < 20, ∀ b < 20, canT (a + 1) = canT (b + 1) → a = b := by decide +kernel
theorem wrd_inj0 : (∀ a < 10, ∀ b < 10, wrd (some a) = wrd (some b) → a = b) ∧ ∀ a < 10, wrd none ≠ wrd (some a) := by decide +kernel
theorem wrd_inj {o o' : Option Nat} (h : ∀ n, o = some n → n ≤ 9) (h' : ∀ n, o' = some n → n ≤ 9) (e : wrd o = wrd o') : o = o' := by
  cases o with
  | none =>
    cases o' with
    | none => rfl
    | some b => exact absurd e (wrd_inj0.2 b (by have := h' b rfl; omega))
  | some a =>
    cases o' with
    | none => exact absurd e.symm (wrd_inj0.2 a (by have := h a rfl; omega))
    | some b => rw [wrd_inj0.1 a (by have := h a rfl; omega) b (by have := h' b rfl; omega) e]
theorem map_inj : ∀ {xs ys : List (Option Nat)}, (∀ o ∈ xs, ∀ n, o = some n → n ≤ 9) → (∀ o ∈ ys, ∀ n, o = some n → n ≤ 9) → xs.map wrd = ys.map wrd → xs = ys
  | [], [], _, _, _ => rfl
  | [], y :: ys, _, _, e => by cases e
  | x :: xs, [], _, _, e => by cases e
  | x :: xs, y :: ys, h, h', e => by
    rw [List.map_cons, List.map_cons, List.cons.injEq] at e
    rw [wrd_inj (h x (List.mem_cons_self ..)) (h' y (List.mem_cons_self ..)) e.1, map_inj (fun o ho => h o (List.mem_cons_of_mem _ ho)) (fun o ho => h' o (List.mem_cons_of_mem _ ho)) e.2]
theorem line_inj {its its' : List (Option Nat)} (ok : okIts 9 its) (ok' : okIts 9 its') (e : lineT its = lineT its') : its = its' := by
  have s1 : ∀ {its : List (Option Nat)}, okIts 9 its → Txt.split (lineT its) ⟨#[32]⟩ = (("items" : String) : Str) :: its.map wrd := fun {its} ok => by
    unfold lineT
    rw [show ((" " : String) : Str) = ⟨#[32]⟩ by decide +kernel]
    exact split_join (List.cons_ne_nil _ _) fun p hp => (line_free ok p hp).1
  have e2 := s1 ok
  rw [e, s1 ok', List.cons.injEq] at e2
  exact (map_inj ok'.2.2 ok.2.2 e2.2).symm
theorem text_inj {l l' : Nat} {its its' : List (Option Nat)} (h : 1 ≤ l ∧ l ≤ 20) (h' : 1 ≤ l' ∧ l' ≤ 20) (ok : okIts 9 its) (ok' : okIts 9 its') (e : textT l its = textT l' its') : l = l' ∧ its = its' := by
  have e2 := text_split h.1 h.2 ok
  rw [e, text_split h'.1 h'.2 ok', List.cons.injEq, List.cons.injEq] at e2
  obtain ⟨a, rfl⟩ : ∃ a, l = a + 1 := ⟨l - 1, by omega⟩
  obtain ⟨b, rfl⟩ : ∃ b, l' = b + 1 := ⟨l' - 1, by omega⟩
  have := canT_inj b (by omega) a (by omega) e2.1
  exact ⟨by omega, (line_inj ok' ok e2.2.1).symm⟩
/-! what repr shows of a garden's things -/
theorem can_small : ∀ k < 20, ∀ c ∈ (canT (k + 1)).cps.toList, c < 16 ^ 8 := by decide +kernel
theorem wrd_small0 : (∀ n < 10, ∀ c ∈ (wrd (some n)).cps.toList, c < 16 ^ 8) ∧ ∀ c ∈ (wrd none).cps.toList, c < 16 ^ 8 := by decide +kernel
theorem text_small {l : Nat} {its : List (Option Nat)} (h : 1 ≤ l ∧ l ≤ 20) (ok : okIts 9 its) : ∀ c ∈ (textT l its).cps.toList, c < 16 ^ 8 := by
  intro c hc
  refine Classical.byContradiction fun hn => ?_
  obtain ⟨k, rfl⟩ : ∃ k, l = k + 1 := ⟨l - 1, by omega⟩
  rw [text_eq ok.1, show (("\n" : String) : Str) = ⟨#[10]⟩ by decide +kernel] at hc
  refine join_free (c := c) (d := 10) (fun q => hn (by rw [q]; decide)) (fun p hp => ?_) hc
  rcases List.mem_cons.mp hp with rfl | hp
  · exact fun q => hn (can_small k (by omega) c q)
  · rw [List.mem_singleton] at hp
    subst hp
    unfold lineT
    rw [show ((" " : String) : Str) = ⟨#[32]⟩ by decide +kernel]
    refine join_free (c := c) (d := 32) (fun q => hn (by rw [q]; decide)) (fun p hp => ?_)
    rcases List.mem_cons.mp hp with rfl | hp
    · exact fun q => hn ((show ∀ c ∈ ((("items" : String) : Str)).cps.toList, c < 16 ^ 8 by decide +kernel) c q)
    · obtain ⟨o, ho, rfl⟩ := List.mem_map.mp hp
      cases o with
      | none => exact fun q => hn (wrd_small0.2 c q)
      | some n => exact fun q => hn (wrd_small0.1 n (by have := ok.2.2 _ ho n rfl; omega) c q)
def rT (n : Nat) : Str := (("Garden of " : String) : Str) ++ Str.ofString (toString (n : Int)) ++ ((" items" : String) : Str)
def rTok (n : Nat) : Bool := decide ((rT n).length ≤ 40) && (rT n).cps.toList.all fun c => decide (c < 16 ^ 8)
theorem rT_ok : ∀ n < 13, rTok n = true := by decide +kernel
theorem small_int : ∀ n < 21, (decide ((Int.ofNat n).natAbs.log2 < 1920) && decide ((PyData.shown (.int (Int.ofNat n))).length ≤ 8)) = true := by decide +kernel
theorem its_shown : ∀ {its : List (Option Nat)}, (∀ o ∈ its, ∀ n, o = some n → n ≤ 9) → PyData.showableAll (toPys (its.map itD)) = true ∧ PyData.hasDictAll (toPys (its.map itD)) = false ∧ PyData.depthAll (toPys (its.map itD)) = 0 ∧
    PyData.leavesShortAll 8 (toPys (its.map itD)) = true ∧ PyData.bulkAll (toPys (its.map itD)) = its.length ∧ nices (its.map itD) = true
  | [], _ => ⟨rfl, rfl, rfl, rfl, rfl, rfl⟩
  | o :: its, h => by
    obtain ⟨i1, i2, i3, i4, i5, i6⟩ := its_shown (its := its) fun o ho => h o (List.mem_cons_of_mem _ ho)
    have key : PyData.showable (toPy (itD o)) = true ∧ PyData.hasDict (toPy (itD o)) = false ∧ PyData.depth (toPy (itD o)) = 0 ∧ PyData.leavesShort 8 (toPy (itD o)) = true ∧ PyData.bulk (toPy (itD o)) = 0 ∧ nice (itD o) = true := by
      cases o with
      | none => exact ⟨rfl, rfl, rfl, rfl, rfl, rfl⟩
      | some n =>
        have z := small_int n (by have := h (some n) (List.mem_cons_self ..) n rfl; omega)
        rw [Bool.and_eq_true] at z
        exact ⟨z.1, rfl, rfl, z.2, rfl, rfl⟩
    obtain ⟨k1, k2, k3, k4, k5, k6⟩ := key
    refine ⟨?_, ?_, ?_, ?_, ?_, ?_⟩
    · show (PyData.showable (toPy (itD o)) && PyData.showableAll (toPys (its.map itD))) = true
      rw [k1, i1]; rfl
    · show (PyData.hasDict (toPy (itD o)) || PyData.hasDictAll (toPys (its.map itD))) = false
      rw [k2, i2]; rfl
    · show max (PyData.depth (toPy (itD o))) (PyData.depthAll (toPys (its.map itD))) = 0
      rw [k3, i3]; rfl
    · show (PyData.leavesShort 8 (toPy (itD o)) && PyData.leavesShortAll 8 (toPys (its.map itD))) = true
      rw [k4, i4]; rfl
    · show PyData.bulk (toPy (itD o)) + 1 + PyData.bulkAll (toPys (its.map itD)) = its.length + 1
      rw [k5, i5]
      omega
    · show (nice (itD o) && nices (its.map itD)) = true
      rw [k6, i6]; rfl
abbrev toldD (l : Nat) (its : List (Option Nat)) : D := .lst [.str (textT l its), .int l, .tup (its.map itD), .str (textT l its), .str (rT its.length)]
theorem told_ok {l : Nat} {its : List (Option Nat)} (h : 1 ≤ l ∧ l ≤ 20) (ok : okIts 9 its) : ReprOk (toldD l its) := by
  obtain ⟨i1, i2, i3, i4, i5, i6⟩ := its_shown ok.2.2
  have z := small_int l (by omega)
  rw [Bool.and_eq_true] at z
  have r := rT_ok its.length (by have := ok.2.1; omega)
  unfold rTok at r
  rw [Bool.and_eq_true, decide_eq_true_eq] at r
  have tl : (textT l its).cps.size ≤ 120 := text_len h.1 h.2 ok
  have rl : (rT its.length).cps.size ≤ 40 := r.1
  have ts : PyData.leavesShort 8 (.str (textT l its)) = true := List.all_eq_true.mpr fun c hc => decide_eq_true (text_small h ok c hc)
  have rs : PyData.leavesShort 8 (.str (rT its.length)) = true := r.2
  have e : toPy (toldD l its) = .list [.str (textT l its), .int l, .tuple (toPys (its.map itD)), .str (textT l its), .str (rT its.length)] := rfl
  refine ⟨?_, ?_, ?_, ?_, ?_⟩
  · show (true && (true && (nices (its.map itD) && (true && (true && true))))) = true
    rw [i6]; rfl
  · rw [e]
    show (true && (PyData.showable (.int l) && (PyData.showableAll (toPys (its.map itD)) && (true && (true && true))))) = true
    rw [i1, show PyData.showable (.int (l : Int)) = true from z.1]; rfl
  · rw [e]
    show (false || (false || (PyData.hasDictAll (toPys (its.map itD)) || (false || (false || false))))) = false
    rw [i2]; rfl
  · rw [e]
    show max 0 (max 0 (max (PyData.depthAll (toPys (its.map itD)) + 1) (max 0 (max 0 0)))) + 1 ≤ 40
    rw [i3]; decide
  · unfold reprT
    refine PyData.shown_fits_bulk (B := 8) (by decide) (by decide) ?_ ?_
    · rw [e]
      show (PyData.leavesShort 8 (.str (textT l its)) && (PyData.leavesShort 8 (.int l) && (PyData.leavesShortAll 8 (toPys (its.map itD)) && (PyData.leavesShort 8 (.str (textT l its)) && (PyData.leavesShort 8 (.str (rT its.length)) && true))))) = true
      rw [ts, rs, i4, show PyData.leavesShort 8 (.int (l : Int)) = true from z.2]; rfl
    · rw [e]
      show (textT l its).cps.size + 1 + (0 + 1 + (PyData.bulkAll (toPys (its.map itD)) + 1 + ((textT l its).cps.size + 1 + ((rT its.length).cps.size + 1 + 0)))) ≤ 2 ^ 20
      rw [i5]
      have := ok.2.1
      omega
/-! a garden's own methods -/
def sp_gstr (c : Nat) : Spec := fun ds C P _ => ∃ t l p, ds = [.ins c [.str t, l, p]] ∧ P (.str t) C
theorem p_Garden___str__ {c_Garden : Nat} (ds C Q PX) (h : sp_gstr c_Garden ds C Q PX) : wpSs Γ (m_Garden___str__ c_Garden) (ro0 n_Garden___str__ ds) C (fnEn Q PX) := by
  obtain ⟨t, l, p, rfl, h⟩ := h
  exact ⟨rfl, h⟩
def sp_grepr (c : Nat) : Spec := fun ds C P _ => ∃ t l its, ds = [gard c t l its] ∧ okIts 9 its ∧ P (.str (rT its.length)) C
theorem p_Garden___repr__ {c_Garden : Nat} (ds C Q PX) (h : sp_grepr c_Garden ds C Q PX) : wpSs Γ (m_Garden___repr__ c_Garden) (ro0 n_Garden___repr__ ds) C (fnEn Q PX) := by
  obtain ⟨t, l, its, rfl, ok, h⟩ := h
  have r := rT_ok its.length (by have := ok.2.1; omega)
  unfold rTok at r
  rw [Bool.and_eq_true, decide_eq_true_eq] at r
  have al : ∀ a b : Str, (a ++ b).length = a.length + b.length := fun a b => Array.size_append
  have rl := r.1
  unfold rT at rl
  rw [al, al] at rl
  have e0 : ∀ x : Str, Str.empty ++ x = x := fun x => str_ext (by rw [app_list]; rfl)
  have z := small_int its.length (by have := ok.2.1; omega)
  rw [Bool.and_eq_true, decide_eq_true_eq] at z
  unfold m_Garden___repr__
  rw [show ro0 n_Garden___repr__ [gard c_Garden t l its] = [some (gard c_Garden t l its)] from rfl]
  simp only [wpSs, wpS, wpX, wpL, wpBo, wpO, wpTs, wpJ, wpI, plainX, boolX, noT, varW, List.getElem?_cons_zero, List.getElem?_cons_succ, List.set_cons_zero, List.set_cons_succ, cD, fnEn, view_int, view_bl, view_str, view_non, view_lst, view_tupl, view_ins, view_dct, view_scr, add_int, sub_int, mul_int, mod_int, div_int, idx_lst, idx_tup, wIf_t, wIf_f, lt_int, le_int, gt_int, ge_int, eq_int, ne_int, List.map_cons, List.map_nil, newW, setAll, wTg, lenD, sliD, strD, List.length_cons, List.length_nil, fldD]
  refine ⟨?_, trivial, ?_⟩
  · rw [e0]
    exact Nat.le_trans (by omega) (show 40 ≤ sizeLine by decide)
  refine ⟨_, rfl, ?_⟩
  try simp only [wpSs, wpS, wpX, wpL, wpBo, wpO, wpTs, wpJ, wpI, plainX, boolX, noT, varW, List.getElem?_cons_zero, List.getElem?_cons_succ, List.set_cons_zero, List.set_cons_succ, cD, fnEn, view_int, view_bl, view_str, view_non, view_lst, view_tupl, view_ins, view_dct, view_scr, add_int, sub_int, mul_int, mod_int, div_int, idx_lst, idx_tup, wIf_t, wIf_f, lt_int, le_int, gt_int, ge_int, eq_int, ne_int, List.map_cons, List.map_nil, newW, setAll, wTg, lenD, sliD, strD, List.length_cons, List.length_nil]
  rw [List.length_map]
  refine ⟨z.1, ?_⟩
  try simp only [wpSs, wpS, wpX, wpL, wpBo, wpO, wpTs, wpJ, wpI, plainX, boolX, noT, varW, List.getElem?_cons_zero, List.getElem?_cons_succ, List.set_cons_zero, List.set_cons_succ, cD, fnEn, view_int, view_bl, view_str, view_non, view_lst, view_tupl, view_ins, view_dct, view_scr, add_int, sub_int, mul_int, mod_int, div_int, idx_lst, idx_tup, wIf_t, wIf_f, lt_int, le_int, gt_int, ge_int, eq_int, ne_int, List.map_cons, List.map_nil, newW, setAll, wTg, lenD, sliD, strD, List.length_cons, List.length_nil]
  rw [e0]
  refine ⟨?_, ?_, h⟩
  · rw [al]
    exact Nat.le_trans (by omega) (show 40 ≤ sizeLine by decide)
  · rw [al, al]
    exact Nat.le_trans (by omega) (show 40 ≤ sizeLine by decide)
def notIns : D → Bool
  | .non => true
  | .str _ => true
  | .tup _ => true
  | _ => false
def sp_geq (c : Nat) : Spec := fun ds C P _ => ∃ t l p y, ds = [.ins c [.str t, l, p], y] ∧ ((∃ t' l' p', y = .ins c [.str t', l', p'] ∧ P (.bl (decide (t = t'))) C) ∨ (notIns y = true ∧ P (.bl false) C))
theorem p_Garden___eq__ {c_Garden : Nat} (ds C Q PX) (h : sp_geq c_Garden ds C Q PX) : wpSs Γ (m_Garden___eq__ c_Garden) (ro0 n_Garden___eq__ ds) C (fnEn Q PX) := by
  obtain ⟨t, l, p, y, rfl, h⟩ := h
  unfold m_Garden___eq__
  rw [show ro0 n_Garden___eq__ [.ins c_Garden [.str t, l, p], y] = [some (.ins c_Garden [.str t, l, p]), some y] from rfl]
  rcases h with ⟨t', l', p', rfl, h⟩ | ⟨hy, h⟩
  · exact ⟨rfl, rfl, rfl, h⟩
  · cases y <;> first | exact h | cases hy
end Mp.k02

set_option Elab.async false
set_option linter.all false
set_option maxRecDepth 100000
set_option maxHeartbeats 1000000
namespace Mp.k02
open PySem PySem.Spec L2 Mp Mp.g
variable {Γ : Specs}
def sp_Garden_text (c : Nat) : Spec := fun ds C P _ => ∃ t l p, ds = [.ins c [t, l, p]] ∧ P t C
theorem p_gtext {c_Garden : Nat} (ds C Q PX) (h : sp_Garden_text c_Garden ds C Q PX) : wpSs Γ (m_Garden_text c_Garden) (ro0 n_Garden_text ds) C (fnEn Q PX) := p_Garden_text ds C Q PX h
theorem for_op {tg : MT} {it : MI} {b rest : List MS} {ρ : Ro} {C : Cs} {E : En} (h : ∀ b', b' = b → wpI Γ it ρ C (fun ds ρ1 C1 => forW tg (wpSs Γ b') ds ρ1 C1 { E with nx := fun ρ2 C2 => wpSs Γ rest ρ2 C2 E }) E.ex) : wpSs Γ (.for tg it b :: rest) ρ C E := by
  have := h b rfl
  rw [wpSs, wpS]
  exact this
theorem same_str {x : Str} {K : D → Prop} (k : K (.bl false)) : cmpD .NotEq (.str x) (.str x) K := by
  show K (.bl (!decide (x = x)))
  rw [decide_eq_true rfl]
  exact k
theorem bft : (false == true) = false := rfl
theorem bff : (false == false) = true := rfl
theorem btt : (true == true) = true := rfl
theorem btf : (true == false) = false := rfl
theorem oc_ins {c : Nat} {t t' : Str} {l p l' p' : D} {C : Cs} {K : Bool → Cs → Prop} (k : K (decide (t = t')) C) :
    insD (.ins c [.str t, l, p]) c (otyD c (.ins c [.str t', l', p']) (sp_geq c [.ins c [.str t, l, p], .ins c [.str t', l', p']] C (fun r C3 => ∃ b, r = .bl b ∧ K b C3) fun _ _ => False)) :=
  ⟨rfl, rfl, t, l, p, _, rfl, .inl ⟨t', l', p', rfl, _, rfl, k⟩⟩
theorem oc_no {c : Nat} {t : Str} {l p y : D} {C : Cs} {K : Bool → Cs → Prop} (hy : notIns y = true) (k : K false C) :
    insD (.ins c [.str t, l, p]) c (otyD c y (sp_geq c [.ins c [.str t, l, p], y] C (fun r C3 => ∃ b, r = .bl b ∧ K b C3) fun _ _ => False)) := by
  have z : sp_geq c [.ins c [.str t, l, p], y] C (fun r C3 => ∃ b, r = .bl b ∧ K b C3) (fun _ _ => False) := ⟨t, l, p, y, rfl, .inr ⟨hy, false, rfl, k⟩⟩
  refine ⟨rfl, ?_⟩
  cases y <;> first | exact z | cases hy
theorem cut_all {ds : List D} (h : ds.length ≤ 12) : cutD ds (some (-12)) none = ds := by
  unfold cutD
  have e : HT.sIx ds.length 0 (some (-12)) = 0 := by
    show (if (-12 : Int) < 0 then ((-12 : Int) + (ds.length : Int)).toNat else min (-12 : Int).toNat ds.length) = 0
    rw [if_pos (by decide)]
    omega
  rw [e, List.drop_zero]
  exact List.take_of_length_le (Nat.le_refl _)
/-- the garden with another can, one item more or the first one changed is another one -/
def mateOk (l : Nat) (its : List (Option Nat)) (m : D) (c : Nat) : Prop := ∃ l' its', m = gard c (.str (textT l' its')) l' its' ∧ textT l its ≠ textT l' its'
theorem p__law_right {c_Garden f_Garden___eq__ f_Garden___repr__ f_Garden___str__ f_Garden_beds f_Garden_can f_Garden_init f_Garden_text f__law_sketch f__law_text : Nat} (g1 : Γ f_Garden___eq__ = sp_geq c_Garden) (g2 : Γ f_Garden___repr__ = sp_grepr c_Garden) (g3 : Γ f_Garden___str__ = sp_gstr c_Garden)
    (g4 : Γ f_Garden_beds = sp_Garden_beds c_Garden) (g5 : Γ f_Garden_can = sp_Garden_can c_Garden) (g6 : Γ f_Garden_init = sp_Garden_init c_Garden) (g7 : Γ f_Garden_text = sp_Garden_text c_Garden) (g8 : Γ f__law_sketch = sp_sketch) (g9 : Γ f__law_text = sp_text) (ds C Q PX) (h : sp_right ds C Q PX) :
    wpSs Γ (m__law_right c_Garden f_Garden___eq__ f_Garden___repr__ f_Garden___str__ f_Garden_beds f_Garden_can f_Garden_init f_Garden_text f__law_sketch f__law_text) (ro0 n__law_right ds) C (fnEn Q PX) := by
  obtain ⟨w, a, s, t, rfl, hw, h⟩ := h
  rw [show ro0 n__law_right [.ref w] = [some (.ref w), none, none, none, none, none, none, none, none] from rfl]
  unfold m__law_right
  refine for_op fun body hbody => ?_
  simp only [wpSs, wpS, wpX, wpL, wpBo, wpO, wpTs, wpJ, wpI, plainX, boolX, noT, varW, List.getElem?_cons_zero, List.getElem?_cons_succ, List.set_cons_zero, List.set_cons_succ, cD, fnEn, view_int, view_bl, view_str, view_non, view_lst, view_tupl, view_ins, view_dct, view_scr, add_int, sub_int, mul_int, mod_int, div_int, idx_lst, idx_tup, wIf_t, wIf_f, lt_int, le_int, gt_int, ge_int, eq_int, ne_int, List.map_cons, List.map_nil, newW, setAll, wTg, lenD, sliD, strD, List.length_cons, List.length_nil, rngD]
  refine for_inv0 (fun i ρ C' => (∃ a s t, C' w = some (wellD a s t)) ∧ ∃ y1 y2 y3 y4 y5 y6 y7 y8, ρ = [some (.ref w), y1, y2, y3, y4, y5, y6, y7, y8]) ⟨⟨a, s, t, hw⟩, none, none, none, none, none, none, none, none, rfl⟩ ?_ ?_
  case refine_2 =>
    rintro ρ C' ⟨_, y1, y2, y3, y4, y5, y6, y7, y8, rfl⟩
    simp only [wpSs, wpS, wpX, wpL, wpBo, wpO, wpTs, wpJ, wpI, plainX, boolX, noT, varW, List.getElem?_cons_zero, List.getElem?_cons_succ, List.set_cons_zero, List.set_cons_succ, cD, fnEn, view_int, view_bl, view_str, view_non, view_lst, view_tupl, view_ins, view_dct, view_scr, add_int, sub_int, mul_int, mod_int, div_int, idx_lst, idx_tup, wIf_t, wIf_f, lt_int, le_int, gt_int, ge_int, eq_int, ne_int, List.map_cons, List.map_nil, newW, setAll, wTg, lenD, sliD, strD, List.length_cons, List.length_nil]
    exact h C'
  clear hw
  rintro i d ρ C hd ⟨⟨a, s, t, hw⟩, y1, y2, y3, y4, y5, y6, y7, y8, rfl⟩ E hE hn hb
  obtain ⟨j, rfl⟩ : ∃ j : Int, d = .int j := by
    rw [rngL_map] at hd
    obtain ⟨k, _, rfl⟩ := List.mem_map.mp (List.mem_of_getElem? hd)
    exact ⟨_, rfl⟩
  simp only [wTg, List.set]
  subst hbody
  refine cut_at 2 fun rest hrest => ?_
  simp only [List.take, wpSs, wpS, wpX, wpL, wpBo, wpO, wpTs, wpJ, wpI, plainX, boolX, noT, varW, List.getElem?_cons_zero, List.getElem?_cons_succ, List.set_cons_zero, List.set_cons_succ, cD, fnEn, view_int, view_bl, view_str, view_non, view_lst, view_tupl, view_ins, view_dct, view_scr, add_int, sub_int, mul_int, mod_int, div_int, idx_lst, idx_tup, wIf_t, wIf_f, lt_int, le_int, gt_int, ge_int, eq_int, ne_int, List.map_cons, List.map_nil, newW, setAll, wTg, lenD, sliD, strD, List.length_cons, List.length_nil, g8, g9]
  refine ⟨w, a, s, t, 20, 12, 9, _, rfl, by decide, by decide, by decide, hw, fun l its a s t l1 l2 ok => ?_⟩
  have l2 : l ≤ 20 := by omega
  try simp only [wpSs, wpS, wpX, wpL, wpBo, wpO, wpTs, wpJ, wpI, plainX, boolX, noT, varW, List.getElem?_cons_zero, List.getElem?_cons_succ, List.set_cons_zero, List.set_cons_succ, cD, fnEn, view_int, view_bl, view_str, view_non, view_lst, view_tupl, view_ins, view_dct, view_scr, add_int, sub_int, mul_int, mod_int, div_int, idx_lst, idx_tup, wIf_t, wIf_f, lt_int, le_int, gt_int, ge_int, eq_int, ne_int, List.map_cons, List.map_nil, newW, setAll, wTg, lenD, sliD, strD, List.length_cons, List.length_nil]
  refine ⟨l, its, rfl, ⟨l1, l2⟩, ok, ?_⟩
  try simp only [wpSs, wpS, wpX, wpL, wpBo, wpO, wpTs, wpJ, wpI, plainX, boolX, noT, varW, List.getElem?_cons_zero, List.getElem?_cons_succ, List.set_cons_zero, List.set_cons_succ, cD, fnEn, view_int, view_bl, view_str, view_non, view_lst, view_tupl, view_ins, view_dct, view_scr, add_int, sub_int, mul_int, mod_int, div_int, idx_lst, idx_tup, wIf_t, wIf_f, lt_int, le_int, gt_int, ge_int, eq_int, ne_int, List.map_cons, List.map_nil, newW, setAll, wTg, lenD, sliD, strD, List.length_cons, List.length_nil]
  subst hrest
  refine cut_at 1 fun rest hrest => ?_
  simp only [List.take, List.drop, wpSs, wpS, wpX, wpL, wpBo, wpO, wpTs, wpJ, wpI, plainX, boolX, noT, varW, List.getElem?_cons_zero, List.getElem?_cons_succ, List.set_cons_zero, List.set_cons_succ, cD, fnEn, view_int, view_bl, view_str, view_non, view_lst, view_tupl, view_ins, view_dct, view_scr, add_int, sub_int, mul_int, mod_int, div_int, idx_lst, idx_tup, wIf_t, wIf_f, lt_int, le_int, gt_int, ge_int, eq_int, ne_int, List.map_cons, List.map_nil, newW, setAll, wTg, lenD, sliD, strD, List.length_cons, List.length_nil, g6]
  refine mk_garden ⟨l1, l2⟩ ok fun C1 hC1 => ?_
  have hw1 : C1 w = some (wellD a s t) := hC1 w _ cset_same
  try simp only [wpSs, wpS, wpX, wpL, wpBo, wpO, wpTs, wpJ, wpI, plainX, boolX, noT, varW, List.getElem?_cons_zero, List.getElem?_cons_succ, List.set_cons_zero, List.set_cons_succ, cD, fnEn, view_int, view_bl, view_str, view_non, view_lst, view_tupl, view_ins, view_dct, view_scr, add_int, sub_int, mul_int, mod_int, div_int, idx_lst, idx_tup, wIf_t, wIf_f, lt_int, le_int, gt_int, ge_int, eq_int, ne_int, List.map_cons, List.map_nil, newW, setAll, wTg, lenD, sliD, strD, List.length_cons, List.length_nil]
  refine ⟨⟨by first | trivial | rfl, by first | trivial | rfl⟩, ?_⟩
  refine mk_garden ⟨l1, l2⟩ ok fun C2 hC2 => ?_
  have hw2 : C2 w = some (wellD a s t) := hC2 w _ hw1
  try simp only [wpSs, wpS, wpX, wpL, wpBo, wpO, wpTs, wpJ, wpI, plainX, boolX, noT, varW, List.getElem?_cons_zero, List.getElem?_cons_succ, List.set_cons_zero, List.set_cons_succ, cD, fnEn, view_int, view_bl, view_str, view_non, view_lst, view_tupl, view_ins, view_dct, view_scr, add_int, sub_int, mul_int, mod_int, div_int, idx_lst, idx_tup, wIf_t, wIf_f, lt_int, le_int, gt_int, ge_int, eq_int, ne_int, List.map_cons, List.map_nil, newW, setAll, wTg, lenD, sliD, strD, List.length_cons, List.length_nil]
  refine ⟨trivial, ?_⟩
  subst hrest
  refine cut_at 1 fun rest hrest => ?_
  simp only [List.take, List.drop, wpSs, wpS, wpX, wpL, wpBo, wpO, wpTs, wpJ, wpI, plainX, boolX, noT, varW, List.getElem?_cons_zero, List.getElem?_cons_succ, List.set_cons_zero, List.set_cons_succ, cD, fnEn, view_int, view_bl, view_str, view_non, view_lst, view_tupl, view_ins, view_dct, view_scr, add_int, sub_int, mul_int, mod_int, div_int, idx_lst, idx_tup, wIf_t, wIf_f, lt_int, le_int, gt_int, ge_int, eq_int, ne_int, List.map_cons, List.map_nil, newW, setAll, wTg, lenD, sliD, strD, List.length_cons, List.length_nil, g2, g3, g4, g5, g7]
  refine ⟨rfl, _, _, _, rfl, rfl, _, _, _, rfl, rfl, _, _, _, rfl, rfl, _, _, _, rfl, _, rfl, rfl, _, _, _, rfl, ok, _, rfl, ?_⟩
  refine ⟨by show 5 ≤ sizeLine; decide, ?_⟩
  try simp only [wpSs, wpS, wpX, wpL, wpBo, wpO, wpTs, wpJ, wpI, plainX, boolX, noT, varW, List.getElem?_cons_zero, List.getElem?_cons_succ, List.set_cons_zero, List.set_cons_succ, cD, fnEn, view_int, view_bl, view_str, view_non, view_lst, view_tupl, view_ins, view_dct, view_scr, add_int, sub_int, mul_int, mod_int, div_int, idx_lst, idx_tup, wIf_t, wIf_f, lt_int, le_int, gt_int, ge_int, eq_int, ne_int, List.map_cons, List.map_nil, newW, setAll, wTg, lenD, sliD, strD, List.length_cons, List.length_nil]
  subst hrest
  refine cut_at 1 fun rest hrest => ?_
  simp only [List.take, List.drop, wpSs, wpS, wpX, wpL, wpBo, wpO, wpTs, wpJ, wpI, plainX, boolX, noT, varW, List.getElem?_cons_zero, List.getElem?_cons_succ, List.set_cons_zero, List.set_cons_succ, cD, fnEn, view_int, view_bl, view_str, view_non, view_lst, view_tupl, view_ins, view_dct, view_scr, add_int, sub_int, mul_int, mod_int, div_int, idx_lst, idx_tup, wIf_t, wIf_f, lt_int, le_int, gt_int, ge_int, eq_int, ne_int, List.map_cons, List.map_nil, newW, setAll, wTg, lenD, sliD, strD, List.length_cons, List.length_nil]
  refine ⟨_, rfl, told_ok ⟨l1, l2⟩ ok, ?_⟩
  refine ⟨_, (atI_nat (i := 0) rfl : atI _ ((0 : Nat) : Int) = _), _, (atI_nat (i := 1) rfl : atI _ ((1 : Nat) : Int) = _), .inl ⟨_, rfl, _, (atI_nat (i := 1) rfl : atI _ ((1 : Nat) : Int) = _), _, rfl, ?_⟩⟩
  have z := small_int its.length (by have := ok.2.1; omega)
  rw [Bool.and_eq_true, decide_eq_true_eq] at z
  have r := rT_ok its.length (by have := ok.2.1; omega)
  unfold rTok at r
  rw [Bool.and_eq_true, decide_eq_true_eq] at r
  have al : ∀ a b : Str, (a ++ b).length = a.length + b.length := fun a b => Array.size_append
  have rl := r.1
  unfold rT at rl
  rw [al, al] at rl
  simp only [wpSs, wpS, wpX, wpL, wpBo, wpO, wpTs, wpJ, wpI, plainX, boolX, noT, varW, List.getElem?_cons_zero, List.getElem?_cons_succ, List.set_cons_zero, List.set_cons_succ, cD, fnEn, view_int, view_bl, view_str, view_non, view_lst, view_tupl, view_ins, view_dct, view_scr, add_int, sub_int, mul_int, mod_int, div_int, idx_lst, idx_tup, wIf_t, wIf_f, lt_int, le_int, gt_int, ge_int, eq_int, ne_int, List.map_cons, List.map_nil, newW, setAll, wTg, lenD, sliD, strD, List.length_cons, List.length_nil]
  rw [List.length_map]
  refine ⟨_, rfl, z.1, ?_⟩
  simp only [wpSs, wpS, wpX, wpL, wpBo, wpO, wpTs, wpJ, wpI, plainX, boolX, noT, varW, List.getElem?_cons_zero, List.getElem?_cons_succ, List.set_cons_zero, List.set_cons_succ, cD, fnEn, view_int, view_bl, view_str, view_non, view_lst, view_tupl, view_ins, view_dct, view_scr, add_int, sub_int, mul_int, mod_int, div_int, idx_lst, idx_tup, wIf_t, wIf_f, lt_int, le_int, gt_int, ge_int, eq_int, ne_int, List.map_cons, List.map_nil, newW, setAll, wTg, lenD, sliD, strD, List.length_cons, List.length_nil]
  refine ⟨Nat.le_trans (by omega) (show 40 ≤ sizeLine by decide), ?_⟩
  simp only [wpSs, wpS, wpX, wpL, wpBo, wpO, wpTs, wpJ, wpI, plainX, boolX, noT, varW, List.getElem?_cons_zero, List.getElem?_cons_succ, List.set_cons_zero, List.set_cons_succ, cD, fnEn, view_int, view_bl, view_str, view_non, view_lst, view_tupl, view_ins, view_dct, view_scr, add_int, sub_int, mul_int, mod_int, div_int, idx_lst, idx_tup, wIf_t, wIf_f, lt_int, le_int, gt_int, ge_int, eq_int, ne_int, List.map_cons, List.map_nil, newW, setAll, wTg, lenD, sliD, strD, List.length_cons, List.length_nil]
  refine ⟨by rw [al]; exact Nat.le_trans (by omega) (show 40 ≤ sizeLine by decide), by show 5 ≤ sizeLine; decide, ?_⟩
  have eR : Str.ofString "Garden of " ++ Str.ofString (toString ((its.length : Nat) : Int)) ++ Str.ofString " items" = rT its.length := rfl
  rw [eR]
  refine ⟨_, rfl, told_ok ⟨l1, l2⟩ ok, ?_⟩
  simp only [wpSs, wpS, wpX, wpL, wpBo, wpO, wpTs, wpJ, wpI, plainX, boolX, noT, varW, List.getElem?_cons_zero, List.getElem?_cons_succ, List.set_cons_zero, List.set_cons_succ, cD, fnEn, view_int, view_bl, view_str, view_non, view_lst, view_tupl, view_ins, view_dct, view_scr, add_int, sub_int, mul_int, mod_int, div_int, idx_lst, idx_tup, wIf_t, wIf_f, lt_int, le_int, gt_int, ge_int, eq_int, ne_int, List.map_cons, List.map_nil, newW, setAll, wTg, lenD, sliD, strD, List.length_cons, List.length_nil]
  generalize reprT _ = rr
  refine same_str ?_
  simp only [wpSs, wpS, wpX, wpL, wpBo, wpO, wpTs, wpJ, wpI, plainX, boolX, noT, varW, List.getElem?_cons_zero, List.getElem?_cons_succ, List.set_cons_zero, List.set_cons_succ, cD, fnEn, view_int, view_bl, view_str, view_non, view_lst, view_tupl, view_ins, view_dct, view_scr, add_int, sub_int, mul_int, mod_int, div_int, idx_lst, idx_tup, wIf_t, wIf_f, lt_int, le_int, gt_int, ge_int, eq_int, ne_int, List.map_cons, List.map_nil, newW, setAll, wTg, lenD, sliD, strD, List.length_cons, List.length_nil]
  subst hrest
  refine cut_at 1 fun rest hrest => ?_
  simp only [List.take, List.drop, wpSs, wpS, wpX, wpL, wpBo, wpO, wpTs, wpJ, wpI, plainX, boolX, noT, varW, List.getElem?_cons_zero, List.getElem?_cons_succ, List.set_cons_zero, List.set_cons_succ, cD, fnEn, view_int, view_bl, view_str, view_non, view_lst, view_tupl, view_ins, view_dct, view_scr, add_int, sub_int, mul_int, mod_int, div_int, idx_lst, idx_tup, wIf_t, wIf_f, lt_int, le_int, gt_int, ge_int, eq_int, ne_int, List.map_cons, List.map_nil, newW, setAll, wTg, lenD, sliD, strD, List.length_cons, List.length_nil, g1]
  refine oc_ins ?_
  rw [decide_eq_true (rfl : textT l its = textT l its)]
  simp only [Bool.not_true, Bool.not_false, bft, bff, btt, btf, wpSs, wpS, wpX, wpL, wpBo, wpO, wpTs, wpJ, wpI, plainX, boolX, noT, varW, List.getElem?_cons_zero, List.getElem?_cons_succ, List.set_cons_zero, List.set_cons_succ, cD, fnEn, view_int, view_bl, view_str, view_non, view_lst, view_tupl, view_ins, view_dct, view_scr, add_int, sub_int, mul_int, mod_int, div_int, idx_lst, idx_tup, wIf_t, wIf_f, lt_int, le_int, gt_int, ge_int, eq_int, ne_int, List.map_cons, List.map_nil, newW, setAll, wTg, lenD, sliD, strD, List.length_cons, List.length_nil]
  refine oc_ins ?_
  rw [decide_eq_true (rfl : textT l its = textT l its)]
  simp only [Bool.not_true, Bool.not_false, bft, bff, btt, btf, wpSs, wpS, wpX, wpL, wpBo, wpO, wpTs, wpJ, wpI, plainX, boolX, noT, varW, List.getElem?_cons_zero, List.getElem?_cons_succ, List.set_cons_zero, List.set_cons_succ, cD, fnEn, view_int, view_bl, view_str, view_non, view_lst, view_tupl, view_ins, view_dct, view_scr, add_int, sub_int, mul_int, mod_int, div_int, idx_lst, idx_tup, wIf_t, wIf_f, lt_int, le_int, gt_int, ge_int, eq_int, ne_int, List.map_cons, List.map_nil, newW, setAll, wTg, lenD, sliD, strD, List.length_cons, List.length_nil]
  refine ⟨rfl, ?_⟩
  simp only [wTru, Bool.not_true, wpSs, wpS, wpX, wpL, wpBo, wpO, wpTs, wpJ, wpI, plainX, boolX, noT, varW, List.getElem?_cons_zero, List.getElem?_cons_succ, List.set_cons_zero, List.set_cons_succ, cD, fnEn, view_int, view_bl, view_str, view_non, view_lst, view_tupl, view_ins, view_dct, view_scr, add_int, sub_int, mul_int, mod_int, div_int, idx_lst, idx_tup, wIf_t, wIf_f, lt_int, le_int, gt_int, ge_int, eq_int, ne_int, List.map_cons, List.map_nil, newW, setAll, wTg, lenD, sliD, strD, List.length_cons, List.length_nil]
  subst hrest
  refine cut_at 1 fun rest hrest => ?_
  simp only [List.take, List.drop, wpSs, wpS, wpX, wpL, wpBo, wpO, wpTs, wpJ, wpI, plainX, boolX, noT, varW, List.getElem?_cons_zero, List.getElem?_cons_succ, List.set_cons_zero, List.set_cons_succ, cD, fnEn, view_int, view_bl, view_str, view_non, view_lst, view_tupl, view_ins, view_dct, view_scr, add_int, sub_int, mul_int, mod_int, div_int, idx_lst, idx_tup, wIf_t, wIf_f, lt_int, le_int, gt_int, ge_int, eq_int, ne_int, List.map_cons, List.map_nil, newW, setAll, wTg, lenD, sliD, strD, List.length_cons, List.length_nil, g6, g9]
  refine ⟨_, (atI_nat (i := 0) rfl : atI _ ((0 : Nat) : Int) = _), ?_⟩
  try simp only [wpSs, wpS, wpX, wpL, wpBo, wpO, wpTs, wpJ, wpI, plainX, boolX, noT, varW, List.getElem?_cons_zero, List.getElem?_cons_succ, List.set_cons_zero, List.set_cons_succ, cD, fnEn, view_int, view_bl, view_str, view_non, view_lst, view_tupl, view_ins, view_dct, view_scr, add_int, sub_int, mul_int, mod_int, div_int, idx_lst, idx_tup, wIf_t, wIf_f, lt_int, le_int, gt_int, ge_int, eq_int, ne_int, List.map_cons, List.map_nil, newW, setAll, wTg, lenD, sliD, strD, List.length_cons, List.length_nil]
  refine ⟨by decide, ?_⟩
  try simp only [wpSs, wpS, wpX, wpL, wpBo, wpO, wpTs, wpJ, wpI, plainX, boolX, noT, varW, List.getElem?_cons_zero, List.getElem?_cons_succ, List.set_cons_zero, List.set_cons_succ, cD, fnEn, view_int, view_bl, view_str, view_non, view_lst, view_tupl, view_ins, view_dct, view_scr, add_int, sub_int, mul_int, mod_int, div_int, idx_lst, idx_tup, wIf_t, wIf_f, lt_int, le_int, gt_int, ge_int, eq_int, ne_int, List.map_cons, List.map_nil, newW, setAll, wTg, lenD, sliD, strD, List.length_cons, List.length_nil]
  refine ⟨_, (atI_nat (i := 1) rfl : atI _ ((1 : Nat) : Int) = _), by show 2 ≤ sizeLine; decide, ?_⟩
  obtain ⟨l', e', q1, q2, q3⟩ : ∃ l' : Nat, fm (l : Int) 20 + 1 = (l' : Int) ∧ 1 ≤ l' ∧ l' ≤ 20 ∧ l ≠ l' := by
    rw [fm_pos (by decide)]
    by_cases h20 : l = 20
    · exact ⟨1, by omega, by omega, by omega, by omega⟩
    · exact ⟨l + 1, by omega, by omega, by omega, by omega⟩
  rw [e']
  refine ⟨l', its, rfl, ⟨q1, q2⟩, ok, ?_⟩
  refine mk_garden ⟨q1, q2⟩ ok fun C3 hC3 => ?_
  have hw3 : C3 w = some (wellD a s t) := hC3 w _ hw2
  try simp only [wpSs, wpS, wpX, wpL, wpBo, wpO, wpTs, wpJ, wpI, plainX, boolX, noT, varW, List.getElem?_cons_zero, List.getElem?_cons_succ, List.set_cons_zero, List.set_cons_succ, cD, fnEn, view_int, view_bl, view_str, view_non, view_lst, view_tupl, view_ins, view_dct, view_scr, add_int, sub_int, mul_int, mod_int, div_int, idx_lst, idx_tup, wIf_t, wIf_f, lt_int, le_int, gt_int, ge_int, eq_int, ne_int, List.map_cons, List.map_nil, newW, setAll, wTg, lenD, sliD, strD, List.length_cons, List.length_nil]
  refine ⟨by show 1 ≤ sizeLine; decide, fun so hso => ?_⟩
  have hne : w ≠ so := fun e => by rw [← e, hw3] at hso; cases hso
  have n1 : textT l its ≠ textT l' its := fun e => q3 (text_inj ⟨l1, l2⟩ ⟨q1, q2⟩ ok ok e).1
  generalize hm1 : gard c_Garden (.str (textT l' its)) l' its = m1
  have k1 : mateOk l its m1 c_Garden := ⟨l', its, hm1.symm, n1⟩
  have hw4 : (cset C3 so (.lst [m1])) w = some (wellD a s t) := by rw [cset_ne hne]; exact hw3
  have hs4 : (cset C3 so (.lst [m1])) so = some (.lst [m1]) := cset_same
  generalize cset C3 so (.lst [m1]) = C4 at hw4 hs4 ⊢
  try simp only [wpSs, wpS, wpX, wpL, wpBo, wpO, wpTs, wpJ, wpI, plainX, boolX, noT, varW, List.getElem?_cons_zero, List.getElem?_cons_succ, List.set_cons_zero, List.set_cons_succ, cD, fnEn, view_int, view_bl, view_str, view_non, view_lst, view_tupl, view_ins, view_dct, view_scr, add_int, sub_int, mul_int, mod_int, div_int, idx_lst, idx_tup, wIf_t, wIf_f, lt_int, le_int, gt_int, ge_int, eq_int, ne_int, List.map_cons, List.map_nil, newW, setAll, wTg, lenD, sliD, strD, List.length_cons, List.length_nil]
  subst hrest
  obtain ⟨o, is, hits⟩ : ∃ o is, its = o :: is := by
    cases its with
    | nil => exact absurd ok.1 (by decide)
    | cons o is => exact ⟨o, is, rfl⟩
  have at0 : atI (its.map itD) 0 = some (itD o) := by
    have e : (itD o :: is.map itD)[0]? = some (itD o) := rfl
    rw [hits, List.map_cons]
    exact (atI_nat e : atI _ ((0 : Nat) : Int) = _)
  have ct0 : cutD (its.map itD) (some 1) none = is.map itD := by rw [hits]; exact cut_tl _ _
  refine cut_at 1 fun rest hrest => ?_
  have go2 : ∀ m2, mateOk l its m2 c_Garden → ∀ C5 : Cs, C5 w = some (wellD a s t) → C5 so = some (.lst [m1, m2]) → wpSs Γ rest [some (.ref w), some (.int j), some (.lst [.int l, .lst (its.map itD)]), some (.str (textT l its)), some (toldD l its), some (.ref so), y6, some (gard c_Garden (.str (textT l its)) l its), some (gard c_Garden (.str (textT l its)) l its)] C5 E := by
    intro m2 k2 C5 hw5 hs5
    subst hrest
    refine cut_at 1 fun rest hrest => ?_
    simp only [List.take, List.drop, wpSs, wpS, wpX, wpL, wpBo, wpO, wpTs, wpJ, wpI, plainX, boolX, noT, varW, List.getElem?_cons_zero, List.getElem?_cons_succ, List.set_cons_zero, List.set_cons_succ, cD, fnEn, view_int, view_bl, view_str, view_non, view_lst, view_tupl, view_ins, view_dct, view_scr, add_int, sub_int, mul_int, mod_int, div_int, idx_lst, idx_tup, wIf_t, wIf_f, lt_int, le_int, gt_int, ge_int, eq_int, ne_int, List.map_cons, List.map_nil, newW, setAll, wTg, lenD, sliD, strD, List.length_cons, List.length_nil, g6, g9]
    refine lstC_ref hs5 ?_
    refine ⟨_, (atI_nat (i := 0) rfl : atI _ ((0 : Nat) : Int) = _), ?_⟩
    refine ⟨_, (atI_nat (i := 1) rfl : atI _ ((1 : Nat) : Int) = _), ?_⟩
    simp only [wpSs, wpS, wpX, wpL, wpBo, wpO, wpTs, wpJ, wpI, plainX, boolX, noT, varW, List.getElem?_cons_zero, List.getElem?_cons_succ, List.set_cons_zero, List.set_cons_succ, cD, fnEn, view_int, view_bl, view_str, view_non, view_lst, view_tupl, view_ins, view_dct, view_scr, add_int, sub_int, mul_int, mod_int, div_int, idx_lst, idx_tup, wIf_t, wIf_f, lt_int, le_int, gt_int, ge_int, eq_int, ne_int, List.map_cons, List.map_nil, newW, setAll, wTg, lenD, sliD, strD, List.length_cons, List.length_nil]
    refine ⟨_, at0, ?_⟩
    have go3 : ∀ f : Option Nat, (∀ n, f = some n → n ≤ 9) → f ≠ o → ∀ v, v = itD f → 0 + 1 ≤ sizeLine ∧ ∃ d, atI [D.int l, D.lst (its.map itD)] 1 = some d ∧ sliD (view C5 d) (some 1) none fun z => binD .Add (.lst [v]) z fun z => 0 + 1 + 1 ≤ sizeLine ∧ sp_text ([D.lst [D.int l, z]] ++ List.replicate 0 (D.tup [])) C5
        (fun r C2 => ∀ a, C2 a = none → sp_Garden_init c_Garden (.ref a :: ([r] ++ List.replicate 0 (D.tup []))) (cset C2 a (.ins c_Garden [])) (fun r C2 => r = .non ∧ madeW false c_Garden a [some (.ref w), some (.int j), some (.lst [.int l, .lst (its.map itD)]), some (.str (textT l its)), some (toldD l its), some (.ref so), y6, some (gard c_Garden (.str (textT l its)) l its), some (gard c_Garden (.str (textT l its)) l its)] C2 fun d ρ2 C2 => lstC (.ref so) C2 fun x xs => xs.length < sizeLine ∧ wpSs Γ rest ρ2 (cset C2 so (.lst (xs ++ [d]))) E)
          fun e C2 => E.ex e [some (.ref w), some (.int j), some (.lst [.int l, .lst (its.map itD)]), some (.str (textT l its)), some (toldD l its), some (.ref so), y6, some (gard c_Garden (.str (textT l its)) l its), some (gard c_Garden (.str (textT l its)) l its)] C2)
        (fun e C2 => E.ex e [some (.ref w), some (.int j), some (.lst [.int l, .lst (its.map itD)]), some (.str (textT l its)), some (toldD l its), some (.ref so), y6, some (gard c_Garden (.str (textT l its)) l its), some (gard c_Garden (.str (textT l its)) l its)] C2) := by
      intro f hf9 hfo v hv
      subst hv
      refine ⟨by show 1 ≤ sizeLine; decide, _, (atI_nat (i := 1) rfl : atI _ ((1 : Nat) : Int) = _), ?_⟩
      simp only [wpSs, wpS, wpX, wpL, wpBo, wpO, wpTs, wpJ, wpI, plainX, boolX, noT, varW, List.getElem?_cons_zero, List.getElem?_cons_succ, List.set_cons_zero, List.set_cons_succ, cD, fnEn, view_int, view_bl, view_str, view_non, view_lst, view_tupl, view_ins, view_dct, view_scr, add_int, sub_int, mul_int, mod_int, div_int, idx_lst, idx_tup, wIf_t, wIf_f, lt_int, le_int, gt_int, ge_int, eq_int, ne_int, List.map_cons, List.map_nil, newW, setAll, wTg, lenD, sliD, strD, List.length_cons, List.length_nil]
      rw [ct0]
      have hlen : is.length + 1 = its.length := by rw [hits]; rfl
      refine ⟨?_, ?_⟩
      · rw [List.length_map]
        have := ok.2.1
        exact Nat.le_trans (show 0 + 1 + is.length ≤ 13 by omega) (by decide)
      have okf : okIts 9 (f :: is) := ⟨by show 0 < is.length + 1; omega, by have := ok.2.1; show is.length + 1 ≤ 12; omega, fun p hp n e => by
        rcases List.mem_cons.mp hp with rfl | hp
        · exact hf9 n e
        · exact ok.2.2 p (by rw [hits]; exact List.mem_cons_of_mem _ hp) n e⟩
      have n3 : textT l its ≠ textT l (f :: is) := fun e => by
        have := (text_inj ⟨l1, l2⟩ ⟨l1, l2⟩ ok okf e).2
        rw [hits, List.cons.injEq] at this
        exact hfo this.1.symm
      refine ⟨by show 2 ≤ sizeLine; decide, l, f :: is, rfl, ⟨l1, l2⟩, okf, ?_⟩
      refine mk_garden ⟨l1, l2⟩ okf fun C6 hC6 => ?_
      have hw6 : C6 w = some (wellD a s t) := hC6 w _ hw5
      have hs6 : C6 so = some (.lst [m1, m2]) := hC6 so _ hs5
      try simp only [wpSs, wpS, wpX, wpL, wpBo, wpO, wpTs, wpJ, wpI, plainX, boolX, noT, varW, List.getElem?_cons_zero, List.getElem?_cons_succ, List.set_cons_zero, List.set_cons_succ, cD, fnEn, view_int, view_bl, view_str, view_non, view_lst, view_tupl, view_ins, view_dct, view_scr, add_int, sub_int, mul_int, mod_int, div_int, idx_lst, idx_tup, wIf_t, wIf_f, lt_int, le_int, gt_int, ge_int, eq_int, ne_int, List.map_cons, List.map_nil, newW, setAll, wTg, lenD, sliD, strD, List.length_cons, List.length_nil]
      refine lstC_ref hs6 ⟨by show 2 < sizeLine; decide, ?_⟩
      generalize hm3 : gard c_Garden (.str (textT l (f :: is))) l (f :: is) = m3
      have k3 : mateOk l its m3 c_Garden := ⟨l, f :: is, hm3.symm, n3⟩
      have hw7 : (cset C6 so (.lst ([m1, m2] ++ [m3]))) w = some (wellD a s t) := by rw [cset_ne hne]; exact hw6
      have hs7 : (cset C6 so (.lst ([m1, m2] ++ [m3]))) so = some (.lst [m1, m2, m3]) := cset_same
      generalize cset C6 so (.lst ([m1, m2] ++ [m3])) = C7 at hw7 hs7 ⊢
      subst hrest
      refine cut_at 1 fun rest hrest => ?_
      simp only [List.take, List.drop, wpSs, wpS, wpX, wpL, wpBo, wpO, wpTs, wpJ, wpI, plainX, boolX, noT, varW, List.getElem?_cons_zero, List.getElem?_cons_succ, List.set_cons_zero, List.set_cons_succ, cD, fnEn, view_int, view_bl, view_str, view_non, view_lst, view_tupl, view_ins, view_dct, view_scr, add_int, sub_int, mul_int, mod_int, div_int, idx_lst, idx_tup, wIf_t, wIf_f, lt_int, le_int, gt_int, ge_int, eq_int, ne_int, List.map_cons, List.map_nil, newW, setAll, wTg, lenD, sliD, strD, List.length_cons, List.length_nil]
      refine frzV_lst hs7 ?_
      try simp only [List.set]
      have hw8 : (cdel C7 so) w = some (wellD a s t) := by rw [cdel_ne hne]; exact hw7
      generalize cdel C7 so = C8 at hw8 ⊢
      try simp only [itsD]
      refine for_inv0 (fun i ρ C' => C' = C8 ∧ ∃ y, ρ = [some (.ref w), some (.int j), some (.lst [.int l, .lst (its.map itD)]), some (.str (textT l its)), some (toldD l its), some (.lst [m1, m2, m3]), y, some (gard c_Garden (.str (textT l its)) l its), some (gard c_Garden (.str (textT l its)) l its)]) ⟨rfl, _, rfl⟩ ?_ ?_
      · rintro i d ρ C' hd ⟨rfl, y, rfl⟩ E' hE' hn' hb'
        have kd : mateOk l its d c_Garden := by
          have hm := List.mem_of_getElem? hd
          simp only [List.mem_cons, List.not_mem_nil, or_false] at hm
          rcases hm with rfl | rfl | rfl
          · exact k1
          · exact k2
          · exact k3
        obtain ⟨l9, its9, rfl, n9⟩ := kd
        simp only [wpSs, wpS, wpX, wpL, wpBo, wpO, wpTs, wpJ, wpI, plainX, boolX, noT, varW, List.getElem?_cons_zero, List.getElem?_cons_succ, List.set_cons_zero, List.set_cons_succ, cD, fnEn, view_int, view_bl, view_str, view_non, view_lst, view_tupl, view_ins, view_dct, view_scr, add_int, sub_int, mul_int, mod_int, div_int, idx_lst, idx_tup, wIf_t, wIf_f, lt_int, le_int, gt_int, ge_int, eq_int, ne_int, List.map_cons, List.map_nil, newW, setAll, wTg, lenD, sliD, strD, List.length_cons, List.length_nil, wTg, List.set, g1]
        refine oc_ins ?_
        rw [decide_eq_false n9]
        simp only [Bool.not_true, Bool.not_false, bft, bff, btt, btf, wpSs, wpS, wpX, wpL, wpBo, wpO, wpTs, wpJ, wpI, plainX, boolX, noT, varW, List.getElem?_cons_zero, List.getElem?_cons_succ, List.set_cons_zero, List.set_cons_succ, cD, fnEn, view_int, view_bl, view_str, view_non, view_lst, view_tupl, view_ins, view_dct, view_scr, add_int, sub_int, mul_int, mod_int, div_int, idx_lst, idx_tup, wIf_t, wIf_f, lt_int, le_int, gt_int, ge_int, eq_int, ne_int, List.map_cons, List.map_nil, newW, setAll, wTg, lenD, sliD, strD, List.length_cons, List.length_nil]
        refine oc_ins ?_
        rw [decide_eq_false (Ne.symm n9)]
        simp only [Bool.not_true, Bool.not_false, bft, bff, btt, btf, wpSs, wpS, wpX, wpL, wpBo, wpO, wpTs, wpJ, wpI, plainX, boolX, noT, varW, List.getElem?_cons_zero, List.getElem?_cons_succ, List.set_cons_zero, List.set_cons_succ, cD, fnEn, view_int, view_bl, view_str, view_non, view_lst, view_tupl, view_ins, view_dct, view_scr, add_int, sub_int, mul_int, mod_int, div_int, idx_lst, idx_tup, wIf_t, wIf_f, lt_int, le_int, gt_int, ge_int, eq_int, ne_int, List.map_cons, List.map_nil, newW, setAll, wTg, lenD, sliD, strD, List.length_cons, List.length_nil]
        exact (hn' _ _ ⟨rfl, _, rfl⟩).1
      · rintro ρ C' ⟨rfl, y, rfl⟩
        subst hrest
        simp only [List.drop, wpSs, wpS, wpX, wpL, wpBo, wpO, wpTs, wpJ, wpI, plainX, boolX, noT, varW, List.getElem?_cons_zero, List.getElem?_cons_succ, List.set_cons_zero, List.set_cons_succ, cD, fnEn, view_int, view_bl, view_str, view_non, view_lst, view_tupl, view_ins, view_dct, view_scr, add_int, sub_int, mul_int, mod_int, div_int, idx_lst, idx_tup, wIf_t, wIf_f, lt_int, le_int, gt_int, ge_int, eq_int, ne_int, List.map_cons, List.map_nil, newW, setAll, wTg, lenD, sliD, strD, List.length_cons, List.length_nil, g1, g4]
        refine oc_no rfl ?_
        refine oc_no rfl ?_
        refine ⟨rfl, _, _, _, rfl, ?_⟩
        simp only [wpSs, wpS, wpX, wpL, wpBo, wpO, wpTs, wpJ, wpI, plainX, boolX, noT, varW, List.getElem?_cons_zero, List.getElem?_cons_succ, List.set_cons_zero, List.set_cons_succ, cD, fnEn, view_int, view_bl, view_str, view_non, view_lst, view_tupl, view_ins, view_dct, view_scr, add_int, sub_int, mul_int, mod_int, div_int, idx_lst, idx_tup, wIf_t, wIf_f, lt_int, le_int, gt_int, ge_int, eq_int, ne_int, List.map_cons, List.map_nil, newW, setAll, wTg, lenD, sliD, strD, List.length_cons, List.length_nil]
        refine oc_no rfl ?_
        refine ⟨by show 1 ≤ sizeLine; decide, ?_⟩
        refine oc_no rfl ?_
        refine ⟨by show 4 ≤ sizeLine; decide, by show 4 ≤ sizeLine; decide, ?_⟩
        simp only [bft, bff, btt, btf]
        have cl : Cmp (.lst [.bl false, .bl false, .bl true, .bl false]) := ⟨by decide +kernel, by decide +kernel⟩
        refine ne_lst cl cl ?_
        rw [show eqP (.lst [.bl false, .bl false, .bl true, .bl false]) (.lst [.bl false, .bl false, .bl true, .bl false]) = true by rfl]
        simp only [Bool.not_true, wpSs, wpS, wpX, wpL, wpBo, wpO, wpTs, wpJ, wpI, plainX, boolX, noT, varW, List.getElem?_cons_zero, List.getElem?_cons_succ, List.set_cons_zero, List.set_cons_succ, cD, fnEn, view_int, view_bl, view_str, view_non, view_lst, view_tupl, view_ins, view_dct, view_scr, add_int, sub_int, mul_int, mod_int, div_int, idx_lst, idx_tup, wIf_t, wIf_f, lt_int, le_int, gt_int, ge_int, eq_int, ne_int, List.map_cons, List.map_nil, newW, setAll, wTg, lenD, sliD, strD, List.length_cons, List.length_nil]
        exact (hn _ _ ⟨⟨_, _, _, hw8⟩, _, _, _, _, _, _, _, _, rfl⟩).1
    cases o with
    | none => exact go3 (some 0) (fun n e => by cases e; decide) (by simp) _ rfl
    | some n => exact go3 none (fun n e => by cases e) (by simp) _ rfl
  simp only [List.take, List.drop, wpSs, wpS, wpX, wpL, wpBo, wpO, wpTs, wpJ, wpI, plainX, boolX, noT, varW, List.getElem?_cons_zero, List.getElem?_cons_succ, List.set_cons_zero, List.set_cons_succ, cD, fnEn, view_int, view_bl, view_str, view_non, view_lst, view_tupl, view_ins, view_dct, view_scr, add_int, sub_int, mul_int, mod_int, div_int, idx_lst, idx_tup, wIf_t, wIf_f, lt_int, le_int, gt_int, ge_int, eq_int, ne_int, List.map_cons, List.map_nil, newW, setAll, wTg, lenD, sliD, strD, List.length_cons, List.length_nil, g6, g9]
  refine lstC_ref hs4 ?_
  refine ⟨_, (atI_nat (i := 1) rfl : atI _ ((1 : Nat) : Int) = _), ?_⟩
  simp only [wpSs, wpS, wpX, wpL, wpBo, wpO, wpTs, wpJ, wpI, plainX, boolX, noT, varW, List.getElem?_cons_zero, List.getElem?_cons_succ, List.set_cons_zero, List.set_cons_succ, cD, fnEn, view_int, view_bl, view_str, view_non, view_lst, view_tupl, view_ins, view_dct, view_scr, add_int, sub_int, mul_int, mod_int, div_int, idx_lst, idx_tup, wIf_t, wIf_f, lt_int, le_int, gt_int, ge_int, eq_int, ne_int, List.map_cons, List.map_nil, newW, setAll, wTg, lenD, sliD, strD, List.length_cons, List.length_nil]
  refine ⟨_, rfl, ?_⟩
  simp only [wpSs, wpS, wpX, wpL, wpBo, wpO, wpTs, wpJ, wpI, plainX, boolX, noT, varW, List.getElem?_cons_zero, List.getElem?_cons_succ, List.set_cons_zero, List.set_cons_succ, cD, fnEn, view_int, view_bl, view_str, view_non, view_lst, view_tupl, view_ins, view_dct, view_scr, add_int, sub_int, mul_int, mod_int, div_int, idx_lst, idx_tup, wIf_t, wIf_f, lt_int, le_int, gt_int, ge_int, eq_int, ne_int, List.map_cons, List.map_nil, newW, setAll, wTg, lenD, sliD, strD, List.length_cons, List.length_nil]
  rw [List.length_map]
  cases e12 : decide ((its.length : Int) < 12) with
  | true =>
    simp only [wpSs, wpS, wpX, wpL, wpBo, wpO, wpTs, wpJ, wpI, plainX, boolX, noT, varW, List.getElem?_cons_zero, List.getElem?_cons_succ, List.set_cons_zero, List.set_cons_succ, cD, fnEn, view_int, view_bl, view_str, view_non, view_lst, view_tupl, view_ins, view_dct, view_scr, add_int, sub_int, mul_int, mod_int, div_int, idx_lst, idx_tup, wIf_t, wIf_f, lt_int, le_int, gt_int, ge_int, eq_int, ne_int, List.map_cons, List.map_nil, newW, setAll, wTg, lenD, sliD, strD, List.length_cons, List.length_nil]
    have e12 := of_decide_eq_true e12
    refine ⟨_, (atI_nat (i := 0) rfl : atI _ ((0 : Nat) : Int) = _), _, (atI_nat (i := 1) rfl : atI _ ((1 : Nat) : Int) = _), by show 1 ≤ sizeLine; decide, ?_⟩
    simp only [wpSs, wpS, wpX, wpL, wpBo, wpO, wpTs, wpJ, wpI, plainX, boolX, noT, varW, List.getElem?_cons_zero, List.getElem?_cons_succ, List.set_cons_zero, List.set_cons_succ, cD, fnEn, view_int, view_bl, view_str, view_non, view_lst, view_tupl, view_ins, view_dct, view_scr, add_int, sub_int, mul_int, mod_int, div_int, idx_lst, idx_tup, wIf_t, wIf_f, lt_int, le_int, gt_int, ge_int, eq_int, ne_int, List.map_cons, List.map_nil, newW, setAll, wTg, lenD, sliD, strD, List.length_cons, List.length_nil]
    refine ⟨?_, ?_⟩
    · rw [List.length_map]
      exact Nat.le_trans (show its.length + 1 ≤ 12 by omega) (by decide)
    simp only [negD, wpSs, wpS, wpX, wpL, wpBo, wpO, wpTs, wpJ, wpI, plainX, boolX, noT, varW, List.getElem?_cons_zero, List.getElem?_cons_succ, List.set_cons_zero, List.set_cons_succ, cD, fnEn, view_int, view_bl, view_str, view_non, view_lst, view_tupl, view_ins, view_dct, view_scr, add_int, sub_int, mul_int, mod_int, div_int, idx_lst, idx_tup, wIf_t, wIf_f, lt_int, le_int, gt_int, ge_int, eq_int, ne_int, List.map_cons, List.map_nil, newW, setAll, wTg, lenD, sliD, strD, List.length_cons, List.length_nil]
    have em : its.map itD ++ [.non] = (its ++ [none]).map itD := by rw [List.map_append]; rfl
    have oke : okIts 9 (its ++ [none]) := ⟨by rw [List.length_append]; have := ok.1; omega, by rw [List.length_append]; show its.length + 1 ≤ 12; omega, fun p hp n e => by
      rcases List.mem_append.mp hp with hp | hp
      · exact ok.2.2 p hp n e
      · rw [List.mem_singleton] at hp
        rw [hp] at e
        cases e⟩
    have n2 : textT l its ≠ textT l (its ++ [none]) := fun e => by
      have := congrArg List.length (text_inj ⟨l1, l2⟩ ⟨l1, l2⟩ ok oke e).2
      rw [List.length_append, List.length_singleton] at this
      omega
    rw [em, cut_all (by rw [List.length_map]; exact oke.2.1)]
    refine ⟨by show 2 ≤ sizeLine; decide, l, its ++ [none], rfl, ⟨l1, l2⟩, oke, ?_⟩
    refine mk_garden ⟨l1, l2⟩ oke fun C5 hC5 => ?_
    have hw5 : C5 w = some (wellD a s t) := hC5 w _ hw4
    have hs5 : C5 so = some (.lst [m1]) := hC5 so _ hs4
    try simp only [wpSs, wpS, wpX, wpL, wpBo, wpO, wpTs, wpJ, wpI, plainX, boolX, noT, varW, List.getElem?_cons_zero, List.getElem?_cons_succ, List.set_cons_zero, List.set_cons_succ, cD, fnEn, view_int, view_bl, view_str, view_non, view_lst, view_tupl, view_ins, view_dct, view_scr, add_int, sub_int, mul_int, mod_int, div_int, idx_lst, idx_tup, wIf_t, wIf_f, lt_int, le_int, gt_int, ge_int, eq_int, ne_int, List.map_cons, List.map_nil, newW, setAll, wTg, lenD, sliD, strD, List.length_cons, List.length_nil]
    refine lstC_ref hs5 ⟨by show 1 < sizeLine; decide, ?_⟩
    exact go2 _ ⟨l, its ++ [none], rfl, n2⟩ _ (by rw [cset_ne hne]; exact hw5) cset_same
  | false =>
    rw [view_refL hs4]
    simp only [wpSs, wpS, wpX, wpL, wpBo, wpO, wpTs, wpJ, wpI, plainX, boolX, noT, varW, List.getElem?_cons_zero, List.getElem?_cons_succ, List.set_cons_zero, List.set_cons_succ, cD, fnEn, view_int, view_bl, view_str, view_non, view_lst, view_tupl, view_ins, view_dct, view_scr, add_int, sub_int, mul_int, mod_int, div_int, idx_lst, idx_tup, wIf_t, wIf_f, lt_int, le_int, gt_int, ge_int, eq_int, ne_int, List.map_cons, List.map_nil, newW, setAll, wTg, lenD, sliD, strD, List.length_cons, List.length_nil]
    refine ⟨_, (atI_nat (i := 0) rfl : atI _ ((0 : Nat) : Int) = _), ?_⟩
    try simp only [wpSs, wpS, wpX, wpL, wpBo, wpO, wpTs, wpJ, wpI, plainX, boolX, noT, varW, List.getElem?_cons_zero, List.getElem?_cons_succ, List.set_cons_zero, List.set_cons_succ, cD, fnEn, view_int, view_bl, view_str, view_non, view_lst, view_tupl, view_ins, view_dct, view_scr, add_int, sub_int, mul_int, mod_int, div_int, idx_lst, idx_tup, wIf_t, wIf_f, lt_int, le_int, gt_int, ge_int, eq_int, ne_int, List.map_cons, List.map_nil, newW, setAll, wTg, lenD, sliD, strD, List.length_cons, List.length_nil]
    refine lstC_ref hs4 ⟨by show 1 < sizeLine; decide, ?_⟩
    exact go2 _ k1 _ (by rw [cset_ne hne]; exact hw4) cset_same
theorem p_law {f__law_right f__law_well : Nat} (g2 : Γ f__law_right = sp_right) (g3 : Γ f__law_well = sp_well) (ds C Q PX) (h : sp_law ds C Q PX) : wpSs Γ (m_law f__law_right f__law_well) (ro0 n_law ds) C (fnEn Q PX) := by
  obtain ⟨ns, rfl, h⟩ := h
  rw [show ro0 n_law [.scr ns] = [some (.scr ns), none] from rfl]
  exact law_tail (i := 1) g2 g3 right_of rfl (by decide) (by show 1 < 2; decide) ⟨by decide, by decide⟩ h
end Mp.k02

set_option Elab.async false
set_option linter.all false
set_option maxRecDepth 100000
set_option maxHeartbeats 4000000
/-! the tables of law_k02_gardens_made, printed by gen.py -/
namespace Mp.k02
open PySem PySem.Spec L2 Mp Mp.g
abbrev prog := PySem.Challenge.pw_canwalks_k02_gardens_made
def top (i : Nat) : Stmt := prog.main.body.getD i (.Pass ⟨0, 0, 0, 0⟩)
def sub (s : Stmt) (j : Nat) : Stmt := match s with
  | .ClassDef _ _ _ b _ _ _ _ _ _ _ => b.getD j (.Pass ⟨0, 0, 0, 0⟩)
  | _ => .Pass ⟨0, 0, 0, 0⟩
abbrev b__law_dip : Bd := ⟨n__law_dip, m__law_dip⟩
abbrev b__law_sketch : Bd := ⟨n__law_sketch, m__law_sketch 0⟩
abbrev b__law_text : Bd := ⟨n__law_text, m__law_text⟩
abbrev b_can_in : Bd := ⟨n_can_in, m_can_in⟩
abbrev b_items_in : Bd := ⟨n_items_in, m_items_in⟩
abbrev b_Garden_init : Bd := ⟨n_Garden_init, m_Garden_init 0 3 4⟩
abbrev b_Garden_text : Bd := ⟨n_Garden_text, m_Garden_text 0⟩
abbrev b_Garden_can : Bd := ⟨n_Garden_can, m_Garden_can 0⟩
abbrev b_Garden_beds : Bd := ⟨n_Garden_beds, m_Garden_beds 0⟩
abbrev b_Garden___str__ : Bd := ⟨n_Garden___str__, m_Garden___str__ 0⟩
abbrev b_Garden___repr__ : Bd := ⟨n_Garden___repr__, m_Garden___repr__ 0⟩
abbrev b_Garden___eq__ : Bd := ⟨n_Garden___eq__, m_Garden___eq__ 0⟩
abbrev b__law_right : Bd := ⟨n__law_right, m__law_right 0 11 10 9 8 7 5 6 1 2⟩
abbrev b__law_well : Bd := ⟨n__law_well, m__law_well⟩
abbrev b_law : Bd := ⟨n_law, m_law 12 13⟩
def S : Sy where
  dfs := [⟨"_law_dip", 0, 0, ["_law_well_here", "_law_size"], 0, 1⟩,
    ⟨"_law_sketch", 0, 0, ["_law_well_here", "_law_most_load", "_law_most_items", "_law_most_wish", "_law_tapped"], 0, 2⟩,
    ⟨"_law_text", 0, 0, ["_law_sketch_here"], 0, 1⟩,
    ⟨"can_in", 0, 0, ["line"], 0, 1⟩,
    ⟨"items_in", 0, 0, ["line"], 0, 1⟩,
    ⟨"__init__", 3, 0, ["self", "text"], 0, 2⟩,
    ⟨"text", 2, 0, ["self"], 0, 1⟩,
    ⟨"can", 2, 0, ["self"], 0, 1⟩,
    ⟨"beds", 2, 0, ["self"], 0, 1⟩,
    ⟨"__str__", 1, 0, ["self"], 0, 1⟩,
    ⟨"__repr__", 1, 0, ["self"], 0, 1⟩,
    ⟨"__eq__", 1, 0, ["self", "other"], 0, 1⟩,
    ⟨"_law_right", 0, 0, ["_law_well_here"], 0, 4⟩,
    ⟨"_law_well", 0, 0, ["_law_script", "_law_turn"], 0, 1⟩,
    ⟨"law", 0, 0, ["_law_script"], 0, 5⟩]
  cls := [⟨"Garden", ["wording", "load", "pattern"]⟩]
  ivs := [("MOST_CAN", 20), ("MOST_LITRES", 9), ("MOST_ITEMS", 12), ("LINES", 2)]
  free := ["int", "range", "str", "len", "all", "tuple", "isinstance", "repr", "bool", "abs", "max", "min"]
  kws := [⟨5, 1, ["text"], [0, 1]⟩]
def fn : List DfD := [⟨"_law_dip", "_law_dip", defArgs (top 14), defBody (top 14), defScope (top 14), 0⟩,
    ⟨"_law_sketch", "_law_sketch", defArgs (top 15), defBody (top 15), defScope (top 15), 0⟩,
    ⟨"_law_text", "_law_text", defArgs (top 16), defBody (top 16), defScope (top 16), 0⟩,
    ⟨"can_in", "can_in", defArgs (top 9), defBody (top 9), defScope (top 9), 0⟩,
    ⟨"items_in", "items_in", defArgs (top 10), defBody (top 10), defScope (top 10), 0⟩,
    ⟨"__init__", "Garden.__init__", defArgs (sub (top 11) 0), defBody (sub (top 11) 0), defScope (sub (top 11) 0), 0⟩,
    ⟨"text", "Garden.text", defArgs (sub (top 11) 1), defBody (sub (top 11) 1), defScope (sub (top 11) 1), 0⟩,
    ⟨"can", "Garden.can", defArgs (sub (top 11) 2), defBody (sub (top 11) 2), defScope (sub (top 11) 2), 0⟩,
    ⟨"beds", "Garden.beds", defArgs (sub (top 11) 3), defBody (sub (top 11) 3), defScope (sub (top 11) 3), 0⟩,
    ⟨"__str__", "Garden.__str__", defArgs (sub (top 11) 7), defBody (sub (top 11) 7), defScope (sub (top 11) 7), 0⟩,
    ⟨"__repr__", "Garden.__repr__", defArgs (sub (top 11) 8), defBody (sub (top 11) 8), defScope (sub (top 11) 8), 0⟩,
    ⟨"__eq__", "Garden.__eq__", defArgs (sub (top 11) 6), defBody (sub (top 11) 6), defScope (sub (top 11) 6), 0⟩,
    ⟨"_law_right", "_law_right", defArgs (top 17), defBody (top 17), defScope (top 17), 0⟩,
    ⟨"_law_well", "_law_well", defArgs (top 13), defBody (top 13), defScope (top 13), 0⟩,
    ⟨"law", "law", defArgs (top 18), defBody (top 18), defScope (top 18), 0⟩]
def bd : List Bd := [b__law_dip, b__law_sketch, b__law_text, b_can_in, b_items_in, b_Garden_init, b_Garden_text, b_Garden_can, b_Garden_beds, b_Garden___str__, b_Garden___repr__, b_Garden___eq__, b__law_right, b__law_well, b_law]
theorem st : stB S fn bd = true := by kernel_rfl
theorem kw0 : KwD (⟨"__init__", "Garden.__init__", defArgs (sub (top 11) 0), defBody (sub (top 11) 0), defScope (sub (top 11) 0), 0⟩ : DfD) ["self", "text"] ⟨5, 1, ["text"], [0, 1]⟩ := .inl ⟨rfl, fun kV doc pm an cdv ct us ws hu hw => match us, ws, hu, hw with
  | [_], [_], _, _ => rfl⟩
theorem kw : ∀ (q : KwS) (d : DfS) (x : DfD), q ∈ S.kws → S.dfs[q.f]? = some d → fn[q.f]? = some x → KwD x d.ps q := fun q d x hq e1 e2 => by
  have hq : q ∈ ([⟨5, 1, ["text"], [0, 1]⟩] : List KwS) := hq
  simp only [List.mem_cons, List.not_mem_nil, or_false] at hq
  rcases hq with rfl
  · cases (show some (⟨"__init__", 3, 0, ["self", "text"], 0, 2⟩ : DfS) = some d from e1)
    cases (show some (⟨"__init__", "Garden.__init__", defArgs (sub (top 11) 0), defBody (sub (top 11) 0), defScope (sub (top 11) 0), 0⟩ : DfD) = some x from e2)
    exact kw0
theorem nds : (fn.map (·.nd)) = [0, 0, 0, 0, 0, 0, 0, 0, 0, 0, 0, 0, 0, 0, 0] := rfl
theorem bn : ∀ (f : Nat) (d : DfS) (x : DfD), S.dfs[f]? = some d → fn[f]? = some x → x.nd ≠ 0 → BindD x d.ps := fun f d x e1 e2 hz => by
  have e3 : (fn.map (·.nd))[f]? = some x.nd := by rw [List.getElem?_map, e2]; rfl
  rw [nds] at e3
  have hf : f < 15 := by have := (List.getElem?_eq_some_iff.mp e3).1; simpa using this
  have key : False := by
    rcases f with _ | _ | _ | _ | _ | _ | _ | _ | _ | _ | _ | _ | _ | _ | _ | f
    · exact absurd (Option.some.inj e3).symm hz
    · exact absurd (Option.some.inj e3).symm hz
    · exact absurd (Option.some.inj e3).symm hz
    · exact absurd (Option.some.inj e3).symm hz
    · exact absurd (Option.some.inj e3).symm hz
    · exact absurd (Option.some.inj e3).symm hz
    · exact absurd (Option.some.inj e3).symm hz
    · exact absurd (Option.some.inj e3).symm hz
    · exact absurd (Option.some.inj e3).symm hz
    · exact absurd (Option.some.inj e3).symm hz
    · exact absurd (Option.some.inj e3).symm hz
    · exact absurd (Option.some.inj e3).symm hz
    · exact absurd (Option.some.inj e3).symm hz
    · exact absurd (Option.some.inj e3).symm hz
    · exact absurd (Option.some.inj e3).symm hz
    · omega
  exact key.elim
theorem tab : TabOk S fn bd := ⟨st, kw, bn⟩
abbrev R : PySem.W.OpenRow := PySem.W.OpenLaw.row PySem.Challenge.rw_canwalks_k02_gardens_made
abbrev hk : PySem.W.Hook := hookM 6 S fn
def ob (s : PySem.W.SharedT) : AlM := obsGM 6 S fn (HandSHeadRun.getT s)
theorem ob_eq (s : PySem.W.SharedT) : ob s = hk.obs s.abs := obsGM_eq (HandSHeadRun.getT_eq s)
def looseL : List Str := (["_wall", "NotRight", "InvalidText", "MOST_CAN", "MOST_LITRES", "MOST_ITEMS", "LINES", "can_in", "items_in", "Garden", "_law_well", "_law_dip", "_law_sketch", "_law_text", "_law_right"] : List Str)
theorem run (w : World) : HandSHeadRun.RunEq R (PySem.W.view R.prog [18]) hk ob 6000 looseL w := by
  intro os
  kernel_rfl
end Mp.k02

set_option Elab.async false
set_option linter.all false
set_option maxRecDepth 100000
set_option maxHeartbeats 4000000
namespace Mp.k02
open PySem PySem.Spec L2 Mp Mp.g
def noSp : Spec := fun _ _ _ _ => False
def Ga : Specs := fun f => match f with
  | 0 => sp_dip
  | 1 => sp_sketch
  | 2 => sp_text
  | 3 => sp_can_in
  | 4 => sp_items_in
  | 5 => sp_Garden_init 0
  | 6 => sp_Garden_text 0
  | 7 => sp_Garden_can 0
  | 8 => sp_Garden_beds 0
  | 9 => sp_gstr 0
  | 10 => sp_grepr 0
  | 11 => sp_geq 0
  | 12 => sp_right
  | 13 => sp_well
  | 14 => sp_law
  | _ => noSp
theorem l__law_dip (ds C Q PX) (h : Ga 0 ds C Q PX) : ds.length = 2 := by
  have h : (sp_dip) ds C Q PX := h
  unfold sp_dip at h
  repeat (first | (subst_vars; rfl) | obtain ⟨_, h⟩ := h)
theorem s__law_dip (ds C Q PX) (h : Ga 0 ds C Q PX) : wpSs Ga b__law_dip.ms (ro0 b__law_dip.N ds) C (fnEn Q PX) := by
  apply p__law_dip
  all_goals first | exact h | rfl
theorem l__law_sketch (ds C Q PX) (h : Ga 1 ds C Q PX) : ds.length = 5 := by
  have h : (sp_sketch) ds C Q PX := h
  unfold sp_sketch at h
  repeat (first | (subst_vars; rfl) | obtain ⟨_, h⟩ := h)
theorem s__law_sketch (ds C Q PX) (h : Ga 1 ds C Q PX) : wpSs Ga b__law_sketch.ms (ro0 b__law_sketch.N ds) C (fnEn Q PX) := by
  apply p__law_sketch
  all_goals first | exact h | rfl
theorem l__law_text (ds C Q PX) (h : Ga 2 ds C Q PX) : ds.length = 1 := by
  have h : (sp_text) ds C Q PX := h
  unfold sp_text at h
  repeat (first | (subst_vars; rfl) | obtain ⟨_, h⟩ := h)
theorem s__law_text (ds C Q PX) (h : Ga 2 ds C Q PX) : wpSs Ga b__law_text.ms (ro0 b__law_text.N ds) C (fnEn Q PX) := by
  apply p__law_text
  all_goals first | exact h | rfl
theorem l_can_in (ds C Q PX) (h : Ga 3 ds C Q PX) : ds.length = 1 := by
  have h : (sp_can_in) ds C Q PX := h
  unfold sp_can_in at h
  repeat (first | (subst_vars; rfl) | obtain ⟨_, h⟩ := h)
theorem s_can_in (ds C Q PX) (h : Ga 3 ds C Q PX) : wpSs Ga b_can_in.ms (ro0 b_can_in.N ds) C (fnEn Q PX) := by
  apply p_can_in
  all_goals first | exact h | rfl
theorem l_items_in (ds C Q PX) (h : Ga 4 ds C Q PX) : ds.length = 1 := by
  have h : (sp_items_in) ds C Q PX := h
  unfold sp_items_in at h
  repeat (first | (subst_vars; rfl) | obtain ⟨_, h⟩ := h)
theorem s_items_in (ds C Q PX) (h : Ga 4 ds C Q PX) : wpSs Ga b_items_in.ms (ro0 b_items_in.N ds) C (fnEn Q PX) := by
  apply p_items_in
  all_goals first | exact h | rfl
theorem l_Garden_init (ds C Q PX) (h : Ga 5 ds C Q PX) : ds.length = 2 := by
  have h : (sp_Garden_init 0) ds C Q PX := h
  unfold sp_Garden_init at h
  repeat (first | (subst_vars; rfl) | obtain ⟨_, h⟩ := h)
theorem s_Garden_init (ds C Q PX) (h : Ga 5 ds C Q PX) : wpSs Ga b_Garden_init.ms (ro0 b_Garden_init.N ds) C (fnEn Q PX) := by
  apply p_Garden_init
  all_goals first | exact h | rfl
theorem l_Garden_text (ds C Q PX) (h : Ga 6 ds C Q PX) : ds.length = 1 := by
  have h : (sp_Garden_text 0) ds C Q PX := h
  unfold sp_Garden_text at h
  repeat (first | (subst_vars; rfl) | obtain ⟨_, h⟩ := h)
theorem s_Garden_text (ds C Q PX) (h : Ga 6 ds C Q PX) : wpSs Ga b_Garden_text.ms (ro0 b_Garden_text.N ds) C (fnEn Q PX) := by
  apply p_gtext
  all_goals first | exact h | rfl
theorem l_Garden_can (ds C Q PX) (h : Ga 7 ds C Q PX) : ds.length = 1 := by
  have h : (sp_Garden_can 0) ds C Q PX := h
  unfold sp_Garden_can at h
  repeat (first | (subst_vars; rfl) | obtain ⟨_, h⟩ := h)
theorem s_Garden_can (ds C Q PX) (h : Ga 7 ds C Q PX) : wpSs Ga b_Garden_can.ms (ro0 b_Garden_can.N ds) C (fnEn Q PX) := by
  apply p_Garden_can
  all_goals first | exact h | rfl
theorem l_Garden_beds (ds C Q PX) (h : Ga 8 ds C Q PX) : ds.length = 1 := by
  have h : (sp_Garden_beds 0) ds C Q PX := h
  unfold sp_Garden_beds at h
  repeat (first | (subst_vars; rfl) | obtain ⟨_, h⟩ := h)
theorem s_Garden_beds (ds C Q PX) (h : Ga 8 ds C Q PX) : wpSs Ga b_Garden_beds.ms (ro0 b_Garden_beds.N ds) C (fnEn Q PX) := by
  apply p_Garden_beds
  all_goals first | exact h | rfl
theorem l_Garden___str__ (ds C Q PX) (h : Ga 9 ds C Q PX) : ds.length = 1 := by
  have h : (sp_gstr 0) ds C Q PX := h
  unfold sp_gstr at h
  repeat (first | (subst_vars; rfl) | obtain ⟨_, h⟩ := h)
theorem s_Garden___str__ (ds C Q PX) (h : Ga 9 ds C Q PX) : wpSs Ga b_Garden___str__.ms (ro0 b_Garden___str__.N ds) C (fnEn Q PX) := by
  apply p_Garden___str__
  all_goals first | exact h | rfl
theorem l_Garden___repr__ (ds C Q PX) (h : Ga 10 ds C Q PX) : ds.length = 1 := by
  have h : (sp_grepr 0) ds C Q PX := h
  unfold sp_grepr at h
  repeat (first | (subst_vars; rfl) | obtain ⟨_, h⟩ := h)
theorem s_Garden___repr__ (ds C Q PX) (h : Ga 10 ds C Q PX) : wpSs Ga b_Garden___repr__.ms (ro0 b_Garden___repr__.N ds) C (fnEn Q PX) := by
  apply p_Garden___repr__
  all_goals first | exact h | rfl
theorem l_Garden___eq__ (ds C Q PX) (h : Ga 11 ds C Q PX) : ds.length = 2 := by
  have h : (sp_geq 0) ds C Q PX := h
  unfold sp_geq at h
  repeat (first | (subst_vars; rfl) | obtain ⟨_, h⟩ := h)
theorem s_Garden___eq__ (ds C Q PX) (h : Ga 11 ds C Q PX) : wpSs Ga b_Garden___eq__.ms (ro0 b_Garden___eq__.N ds) C (fnEn Q PX) := by
  apply p_Garden___eq__
  all_goals first | exact h | rfl
theorem l__law_right (ds C Q PX) (h : Ga 12 ds C Q PX) : ds.length = 1 := by
  have h : (sp_right) ds C Q PX := h
  unfold sp_right at h
  repeat (first | (subst_vars; rfl) | obtain ⟨_, h⟩ := h)
theorem s__law_right (ds C Q PX) (h : Ga 12 ds C Q PX) : wpSs Ga b__law_right.ms (ro0 b__law_right.N ds) C (fnEn Q PX) := by
  apply p__law_right
  all_goals first | exact h | rfl
theorem l__law_well (ds C Q PX) (h : Ga 13 ds C Q PX) : ds.length = 2 := by
  have h : (sp_well) ds C Q PX := h
  unfold sp_well at h
  repeat (first | (subst_vars; rfl) | obtain ⟨_, h⟩ := h)
theorem s__law_well (ds C Q PX) (h : Ga 13 ds C Q PX) : wpSs Ga b__law_well.ms (ro0 b__law_well.N ds) C (fnEn Q PX) := by
  apply p__law_well
  all_goals first | exact h | rfl
theorem l_law (ds C Q PX) (h : Ga 14 ds C Q PX) : ds.length = 1 := by
  have h : (sp_law) ds C Q PX := h
  unfold sp_law at h
  repeat (first | (subst_vars; rfl) | obtain ⟨_, h⟩ := h)
theorem s_law (ds C Q PX) (h : Ga 14 ds C Q PX) : wpSs Ga b_law.ms (ro0 b_law.N ds) C (fnEn Q PX) := by
  apply p_law
  all_goals first | exact h | rfl
theorem sl : ∀ f d, S.dfs[f]? = some d → ∀ ds C Q PX, Ga f ds C Q PX → ds.length = d.ps.length := by
  intro f d e ds C Q PX h
  rcases f with _ | _ | _ | _ | _ | _ | _ | _ | _ | _ | _ | _ | _ | _ | _ | f
  · cases (show some (⟨"_law_dip", 0, 0, ["_law_well_here", "_law_size"], 0, 1⟩ : DfS) = some d from e)
    exact l__law_dip ds C Q PX h
  · cases (show some (⟨"_law_sketch", 0, 0, ["_law_well_here", "_law_most_load", "_law_most_items", "_law_most_wish", "_law_tapped"], 0, 2⟩ : DfS) = some d from e)
    exact l__law_sketch ds C Q PX h
  · cases (show some (⟨"_law_text", 0, 0, ["_law_sketch_here"], 0, 1⟩ : DfS) = some d from e)
    exact l__law_text ds C Q PX h
  · cases (show some (⟨"can_in", 0, 0, ["line"], 0, 1⟩ : DfS) = some d from e)
    exact l_can_in ds C Q PX h
  · cases (show some (⟨"items_in", 0, 0, ["line"], 0, 1⟩ : DfS) = some d from e)
    exact l_items_in ds C Q PX h
  · cases (show some (⟨"__init__", 3, 0, ["self", "text"], 0, 2⟩ : DfS) = some d from e)
    exact l_Garden_init ds C Q PX h
  · cases (show some (⟨"text", 2, 0, ["self"], 0, 1⟩ : DfS) = some d from e)
    exact l_Garden_text ds C Q PX h
  · cases (show some (⟨"can", 2, 0, ["self"], 0, 1⟩ : DfS) = some d from e)
    exact l_Garden_can ds C Q PX h
  · cases (show some (⟨"beds", 2, 0, ["self"], 0, 1⟩ : DfS) = some d from e)
    exact l_Garden_beds ds C Q PX h
  · cases (show some (⟨"__str__", 1, 0, ["self"], 0, 1⟩ : DfS) = some d from e)
    exact l_Garden___str__ ds C Q PX h
  · cases (show some (⟨"__repr__", 1, 0, ["self"], 0, 1⟩ : DfS) = some d from e)
    exact l_Garden___repr__ ds C Q PX h
  · cases (show some (⟨"__eq__", 1, 0, ["self", "other"], 0, 1⟩ : DfS) = some d from e)
    exact l_Garden___eq__ ds C Q PX h
  · cases (show some (⟨"_law_right", 0, 0, ["_law_well_here"], 0, 4⟩ : DfS) = some d from e)
    exact l__law_right ds C Q PX h
  · cases (show some (⟨"_law_well", 0, 0, ["_law_script", "_law_turn"], 0, 1⟩ : DfS) = some d from e)
    exact l__law_well ds C Q PX h
  · cases (show some (⟨"law", 0, 0, ["_law_script"], 0, 5⟩ : DfS) = some d from e)
    exact l_law ds C Q PX h
  · cases (show none = some d from e)
theorem spec : ∀ f b, bd[f]? = some b → ∀ ds C Q PX, Ga f ds C Q PX → wpSs Ga b.ms (ro0 b.N ds) C (fnEn Q PX) := by
  intro f b e ds C Q PX h
  rcases f with _ | _ | _ | _ | _ | _ | _ | _ | _ | _ | _ | _ | _ | _ | _ | f
  · cases (show some b__law_dip = some b from e)
    exact s__law_dip ds C Q PX h
  · cases (show some b__law_sketch = some b from e)
    exact s__law_sketch ds C Q PX h
  · cases (show some b__law_text = some b from e)
    exact s__law_text ds C Q PX h
  · cases (show some b_can_in = some b from e)
    exact s_can_in ds C Q PX h
  · cases (show some b_items_in = some b from e)
    exact s_items_in ds C Q PX h
  · cases (show some b_Garden_init = some b from e)
    exact s_Garden_init ds C Q PX h
  · cases (show some b_Garden_text = some b from e)
    exact s_Garden_text ds C Q PX h
  · cases (show some b_Garden_can = some b from e)
    exact s_Garden_can ds C Q PX h
  · cases (show some b_Garden_beds = some b from e)
    exact s_Garden_beds ds C Q PX h
  · cases (show some b_Garden___str__ = some b from e)
    exact s_Garden___str__ ds C Q PX h
  · cases (show some b_Garden___repr__ = some b from e)
    exact s_Garden___repr__ ds C Q PX h
  · cases (show some b_Garden___eq__ = some b from e)
    exact s_Garden___eq__ ds C Q PX h
  · cases (show some b__law_right = some b from e)
    exact s__law_right ds C Q PX h
  · cases (show some b__law_well = some b from e)
    exact s__law_well ds C Q PX h
  · cases (show some b_law = some b from e)
    exact s_law ds C Q PX h
  · cases (show none = some b from e)
end Mp.k02
open PySem PySem.W PySem.Calls PyProof.Rows
theorem PySem.Challenge.cw_canwalks_k02_gardens_made_holds : PySem.Challenge.rw_canwalks_k02_gardens_made.Holds := by
  w_on; o_law
  refine HandSHeadRun.head_any (r := OpenLaw.row PySem.Challenge.rw_canwalks_k02_gardens_made) (q := view (OpenLaw.row PySem.Challenge.rw_canwalks_k02_gardens_made).prog [18]) (H := Mp.k02.hk) (ob := Mp.k02.ob) (M := 6000) (loose := Mp.k02.looseL) (d := HandSHeadRun.topDef (OpenLaw.row PySem.Challenge.rw_canwalks_k02_gardens_made).prog 18) (kwd := []) Mp.k02.ob_eq
    (by kernel_rfl) (fun s => by kernel_rfl) Mp.k02.run (by kernel_rfl) (by kernel_rfl) (by kernel_rfl) (by rfl) (by first | assumption | decide +kernel) (by decide +kernel) ⟨rfl, rfl, rfl, rfl, rfl, by decide +kernel⟩ ?hw ?hc
  case hw => w_witness2
  case hc =>
    exact Mp.law_of (l := PySem.Challenge.rw_canwalks_k02_gardens_made) (n := 63) (k := 5) (L := 14) (x := "_law_script") (S := Mp.k02.S) (fn := Mp.k02.fn) (bd := Mp.k02.bd) (Γ := Mp.k02.Ga) (dl := ⟨"law", 0, 0, ["_law_script"], 0, 5⟩) rfl (by decide) (by kernel_rfl) ⟨rfl, by decide, by decide⟩ Mp.k02.tab rfl rfl (by kernel_rfl) rfl rfl (by decide) Mp.k02.sl Mp.k02.spec
      fun ns hl => ⟨ns, rfl, fun _ => rfl⟩
