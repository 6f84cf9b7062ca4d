import PyProof.Rows.All
import PySem.Challenge.RW_gridloops_k92_what_edits_are
import Wide.All
import OpenK.AllK
import Wide.FinOn
import HandS.ForMost
import KE.GoesMore
import HandS.Walk
import PyProof.EnumMake
import PyProof.Draws
import HandS.Exc
import HandS.TryOnly
import HandS.ExcOwn
import HandS.WordsExc
import HandS.Defaults
import HandS.RaiseMore
import PyProof.ReprRoads
import PyProof.CallFns
import HandS.Style
import HandS.Conv
import HandS.More
import KE.KDictPairs
import KE.SortData
import HandS.Head2
import HandS.HeadEnd
import HandS.HeadHook4
import HandS.Wide
import HandS.TupAny
import HandS.IsInst
import HandS.Deep
import HandS.Small
import HandS.DictComp
import HandS.HeadHook2
set_option Elab.async false
set_option linter.all false
set_option maxRecDepth 100000
set_option maxHeartbeats 2000000
/-! enumerate of a tuple, over the layer -/
namespace PySem
theorem meets_enum_tuple (l : Addr) (items : Array Value) (o : Obj) (n : Nat) (hc : o.cls = .type "tuple") (hd : o.data = .seq items n) :
    Meets (Builtin.«enumerate.__new__» ⟨[.type "enumerate", .ref l], []⟩) (fun _ R s => s.heap.get? l = some o ∧
      R (.ok (.ret (.ref (s.heap.push { cls := .type "tuple_iterator", data := .fields #[.ref l, .int 0 0] }).objs.size)))
        { s with heap := (s.heap.push { cls := .type "tuple_iterator", data := .fields #[.ref l, .int 0 0] }).push { cls := .type "enumerate", data := .fields #[.none, .bool false, .ref s.heap.objs.size, rawInt 0, .none, .none] } }) :=
  .of_wp fun prog w A R s h => by
    obtain ⟨hp, g, d, tk, os⟩ := s; obtain ⟨hl, h⟩ := h
    have hsub := sub_enumerate
    have hT : Heap.IsTuple (Shared.heap ⟨hp, g, d, tk, os⟩) l items := ⟨_, hl, hc, n, hd⟩
    have q1 : ∀ {A' : Around} {E : Value → Shared → Prop} {Q : Value → Shared → Prop}, Q (.ref hp.objs.size) ⟨hp.push { cls := .type "tuple_iterator", data := .fields #[.ref l, .int 0 0] }, g, d, tk, os⟩ → wpAny (model prog w) A' (pyIter (.ref l)) Q E ⟨hp, g, d, tk, os⟩ :=
      fun q => wpAny_pyIter_tuple hT q
    wp_walk using q1
    refine wpAny_stack_any fun st => wpAny_pure ?_
    split
    · rename_i c _ _ _ _ _
      cases (c == Value.type "enumerate")
      · wp_walk using q1
        exact ⟨_, rfl, h⟩
      · wp_walk using q1
        exact ⟨_, rfl, h⟩
    · wp_walk using q1
      exact ⟨_, rfl, h⟩
theorem call_enum_tuple {prog : Program} {w : World} {A : Around} {E : Value → Shared → Prop} {s : Shared} {l : Addr} {items : Array Value} {Q : Value → Shared → Prop} (hT : s.heap.IsTuple l items)
    (h : ∀ h', IsEnum h' (s.heap.objs.size + 1) s.heap.objs.size 0 .none → h'.IsTupleIter s.heap.objs.size l 0 → h'.objs.size = s.heap.objs.size + 2 →
      (∀ b o, s.heap.get? b = some o → h'.get? b = some o) → Q (.ref (s.heap.objs.size + 1)) { s with heap := h' }) :
    wpAny (model prog w) A (call (.type "enumerate") [.ref l]) Q E s := by
  obtain ⟨o, hl, hc, n, hd⟩ := hT
  refine callType_new F.called_enumerate (by decide) (F.typeCall_enumerate_1 _) (F.newCall_enumerate_1 _) (fun obj => F.args_object_init_2 obj _) F.entry_enumerate_new
    (meets_enum_tuple l items o n hc hd) ⟨hl, ?_⟩
  have hz : (s.heap.push { cls := .type "tuple_iterator", data := .fields #[.ref l, .int 0 0] }).objs.size = s.heap.objs.size + 1 := Heap.size_push ..
  show _ ∧ _
  rw [hz]
  have he : IsEnum ((s.heap.push { cls := .type "tuple_iterator", data := .fields #[.ref l, .int 0 0] }).push
      { cls := .type "enumerate", data := .fields #[.none, .bool false, .ref s.heap.objs.size, rawInt 0, .none, .none] }) (s.heap.objs.size + 1) s.heap.objs.size 0 .none := by
    have := Heap.get?_push_size (s.heap.push { cls := .type "tuple_iterator", data := .fields #[.ref l, .int 0 0] })
      (o := { cls := .type "enumerate", data := .fields #[.none, .bool false, .ref s.heap.objs.size, rawInt 0, .none, .none] }) rfl
    rw [hz] at this; exact this
  refine ⟨⟨_, he, rfl⟩, h _ he ⟨_, Heap.get?_push_of_some _ (Heap.get?_push_size _ rfl), rfl, rfl⟩ (by rw [Heap.size_push, hz]) fun b o x => Heap.get?_push_of_some _ (Heap.get?_push_of_some _ x)⟩
theorem pyNext_enumT_end {prog : Program} {w : World} {A : Around} {E : Value → Shared → Prop} {s : Shared} {e it l : Addr} {i : Nat} {items : Array Value} {old : Value} {Q : Option Value → Shared → Prop} (hh : A.handled = none)
    (he : IsEnum s.heap e it i old) (hit : s.heap.IsTupleIter it l i) (hl : s.heap.IsTuple l items) (hx : items[i]? = none)
    (hQ : ∀ h', Heap.ExtBut it s.heap h' → Q none { s with heap := h' }) : wpAny (model prog w) A (pyNext (.ref e)) Q E s := by
  have hT : s.TypeIs (.ref e) "enumerate" := ⟨_, he, rfl⟩
  unfold pyNext
  refine wpAny_bind (wpAny_attempt (wpAny_callSpecial?_slot (name := Str.ofString "__next__") hT F.slot_enumerate_next
    (wpAny_call_entry F.slot_enumerate_next hT F.entry_enumerate_next ?_ (F.args_enumerate_next_1 _))))
  show wpAny _ _ (field (.ref e) 2 >>= _) _ _ _
  refine wpAny_bind (wpAny_field he rfl (x := .ref it) rfl ?_)
  refine wpAny_bind (wpAny_nextOf_tuple_end (show A.in1.handled = none from hh) hit hl hx fun h' x he' hx' => ?_)
  obtain ⟨o, ho, hc⟩ := hx'
  refine wpAny_bind (wpAny_isInstance (T := "StopIteration") (b := true) ⟨o, ho, hc⟩ isSubtype_stop ?_)
  exact wpAny_pure (hQ _ he')
end PySem
namespace L2
open PySem PySem.Spec PyProof.Rows
def IteT (K : PySem.W.Frag) (a : Addr) : It :=
  ⟨fun i H => ∃ (xs : List V) (x : V), SqT K H a xs ∧ xs[i]? = some x, fun i H v H' => ∃ T x, v = .ref T ∧ H T = none ∧ H' = upd H T (.tup [.int (i : Nat), x]) ∧ ∀ xs, SqT K H a xs → xs[i]? = some x, fun i H => ∃ xs : List V, SqT K H a xs ∧ xs.length ≤ i⟩
theorem enum_ne_tuple {h : Heap} {e it a : Addr} {i : Int} {old : Value} {items : Array Value} (he : IsEnum h e it i old) (ht : h.IsTuple a items) : e ≠ a := by
  rintro rfl
  obtain ⟨o, ho, hc, _⟩ := ht
  have h1 : h.get? e = some _ := he
  rw [ho] at h1
  cases h1
  simp at hc
theorem turn_enumT {P : Program} {w : World} {K : PySem.W.Frag} {elts : List Expr} {kk : Nat} {tpos : Pos} (a e it : Addr) :
    Turn P w K (.Tuple elts kk tpos) (IteT K a) [e, it] e (fun i h => (∃ old, IsEnum h e it ((i : Nat) : Int) old) ∧ h.IsTupleIter it a i ∧ e ≠ it) where
  mem := by simp
  obj := fun i h st b hb => by
    obtain ⟨⟨old, he⟩, ⟨o, ho, hc, hd⟩, _⟩ := st
    have e' : b = e ∨ b = it := by simpa using hb
    rcases e' with z | z
    · rw [z]; exact ⟨_, he, fun v q => nomatch q⟩
    · rw [z]; exact ⟨o, ho, fun v q => by rw [hd] at q; cases q⟩
  keep := fun i h h' st k => let ⟨⟨old, he⟩, hi, hne⟩ := st; ⟨⟨old, k e (by simp) _ he⟩, hi.at fun o q => k it (by simp) o q, hne⟩
  item := by
    intro X hP hw hK hc i pins s σ H E I hf st hg
    subst hP hw hK
    obtain ⟨⟨old, he⟩, hit, hne⟩ := st
    obtain ⟨xs, x, hq, hx⟩ := hg
    obtain ⟨its, rv, p, hz⟩ := I.tuple hq
    obtain ⟨u, hu, ru⟩ := rv.get hx
    have hel : e < s.heap.objs.size := Heap.lt_size he
    have hil : it < s.heap.objs.size := by obtain ⟨_, q, _⟩ := hit; exact Heap.lt_size q
    have pT : s.heap.IsTuple a its.toArray := by obtain ⟨o, h1, h2, n, h3⟩ := p; exact ⟨o, h1, h2, n, h3⟩
    have hea : e ≠ a := enum_ne_tuple he pT
    have hia : it ≠ a := by
      rintro rfl
      obtain ⟨o, ho, hc', _⟩ := pT
      obtain ⟨o2, ho2, hc2, _⟩ := hit
      rw [ho] at ho2
      cases ho2
      rw [hc'] at hc2
      simp at hc2
    have hlt : i < its.toArray.size := by
      have := (List.getElem?_eq_some_iff.mp hu).1
      simpa using this
    refine wpAny_pyNext_enum_itemD (Draws.tuple (A := X.A.in1) (show X.A.in1.handled = none from I.ok.hd hc) it a (Ne.symm hia) its.toArray) he ⟨hit, pT⟩ hlt hne (by simp [hne, hea]) fun x' h' tk hx' ho hst hT hsz hk => ?_
    have ex : x' = u := by
      have e1 : its.toArray[i]? = some u := by simpa using hu
      rw [e1] at hx'
      exact (Option.some.inj hx').symm
    subst ex
    refine ⟨_, rfl, wpAny_letOwnedTupleGo_enum (s := { s with heap := h', toks := tk + 1 }) ho fun h'' he' sb => ?_⟩
    have hT2 : h''.get? s.heap.objs.size = some { cls := .type "tuple", data := .seq #[.int i tk, x'] } := (sb.2 _ (Nat.ne_of_gt hel)).trans hT
    have new : ObjOk X.prog X.w (upd H s.heap.objs.size (.tup [.int (i : Nat), x])) h'' s.heap.objs.size (.tup [.int (i : Nat), x]) :=
      ⟨by show 2 ≤ sizeLine; decide, [.int i tk, x'], .cons ⟨_, rfl⟩ (.cons ru .nil), ⟨_, hT2, rfl, _, rfl⟩⟩
    have I1 : Inv X pins σ (upd H s.heap.objs.size (.tup [.int (i : Nat), x])) { s with heap := h'', toks := tk + 1 } :=
      I.turnedNew (ch := [e, it]) (fun b ob hb q => (sb.2 b (fun z => hb (by simp [z]))).trans (hk b ob (fun z => hb (by simp [z])) (fun z => hb (by simp [z])) q)) hf (Nat.le_refl _) new
    refine ⟨.ref s.heap.objs.size, _, I1, rfl, ⟨_, x, rfl, I.hok.fresh (Nat.le_refl _), rfl, fun ys hy => by rw [I.tuple_inj hy hq]; exact hx⟩, ⟨⟨x', ?_⟩, hst.1.at fun o q => (sb.2 it (Ne.symm hne)).trans q, hne⟩, fun b hb => ?_⟩
    · have e1 : ((i + 1 : Nat) : Int) = (i : Int) + 1 := by omega
      rw [e1]; exact he'
    · have hb' : b < s.heap.objs.size := by
        have e' : b = e ∨ b = it := by simpa using hb
        rcases e' with z | z
        · rw [z]; exact hel
        · rw [z]; exact hil
      rw [upd_ne (Nat.ne_of_lt hb')]
      exact (hf b hb).1
  done := by
    intro X hP hw hK hc i pins s σ H E I hf st hg
    subst hP hw hK
    obtain ⟨⟨old, he⟩, hit, hne⟩ := st
    obtain ⟨xs, hq, hx⟩ := hg
    obtain ⟨its, rv, p, hz⟩ := I.tuple hq
    obtain ⟨f0, f1, f2, f3, f4, f5⟩ := hf it (by simp)
    have hl := rv.length
    have pT : s.heap.IsTuple a its.toArray := by obtain ⟨o, h1, h2, n, h3⟩ := p; exact ⟨o, h1, h2, n, h3⟩
    have hia : it ≠ a := by
      rintro rfl
      obtain ⟨o, ho, hc', _⟩ := pT
      obtain ⟨o2, ho2, hc2, _⟩ := hit
      rw [ho] at ho2
      cases ho2
      rw [hc'] at hc2
      simp at hc2
    exact pyNext_enumT_end (I.ok.hd hc) he hit pT (by simp; omega) fun h' eb => ⟨rfl, I.turned (t' := s.toks) (fun b o hb q => eb b o hb q) f0 f1 f3 f4 f5⟩
  self := fun A i s Q E st h => let ⟨⟨_, he⟩, _⟩ := st; wpAny_pyIter_enum he h
def iEnumT (K : PySem.W.Frag) (ta : TA) : TI := fun σ H R => ta σ H fun vs H1 => ∃ a xs, vs = [.ref a] ∧ SqT K H1 a xs ∧ R (IteT K a) H1
theorem pi_enumT {X : Cx} {e : Expr} {ta : TA} {p pos tpos : Pos} {elts : List Expr} {kk : Nat} (hg : Gl X "enumerate") (hm : X.mg "enumerate" = none) (ha : PA X [e] ta) (hs : starEach [e] X.env = [(false, eval e X.env)] := by rfl) :
    PI X (.Tuple elts kk tpos) (.Call (.Name "enumerate" p) [e] [] pos) (iEnumT X.K ta) := by
  refine ⟨fun pins s σ H R I h => ?_⟩
  refine Call_ (ld_blt I hg hm boot_enumerate (PyProof.Rows.callWith_type1 (thn (ha.run pos pins s σ H _ I h) fun us s1 ⟨vs, H1, I1, r1, q1⟩ => ?_) hs rfl))
  obtain ⟨a, xs, ex, hq, q⟩ := q1
  subst ex
  cases r1 with
  | cons r rr =>
    cases rr
    cases r
    obtain ⟨its, rv, p', hz⟩ := I1.tuple hq
    have pT : s1.heap.IsTuple a its.toArray := by obtain ⟨o, h1, h2, n, h3⟩ := p'; exact ⟨o, h1, h2, n, h3⟩
    refine call_enum_tuple pT fun h' he hit hsz hk => wpAny_pyIter_enum he ?_
    have I2 : Inv X pins σ H1 { s1 with heap := h' } := I1.kept (t' := s1.toks) hk
    refine ⟨s1.heap.objs.size + 1, [s1.heap.objs.size + 1, s1.heap.objs.size], _, _, H1, rfl, I2, turn_enumT a (s1.heap.objs.size + 1) s1.heap.objs.size, ⟨⟨.none, he⟩, hit, Nat.succ_ne_self _⟩, fun b hb => ?_, q⟩
    have e' : b = s1.heap.objs.size + 1 ∨ b = s1.heap.objs.size := by simpa using hb
    have hle : s1.heap.objs.size ≤ b := by
      rcases e' with z | z
      · rw [z]; exact Nat.le_add_right _ _
      · rw [z]; exact Nat.le_refl _
    exact I1.fpOk hle (I1.hok.fresh hle)
theorem walk_enumT {K : PySem.W.Frag} {a : Addr} {xs : List V} : Walk (IteT K a) xs.length (fun H => SqT K H a xs) (YPair (fun i => some (.int (i : Nat))) (fun i => xs[i]?)) := by
  refine ⟨fun i _ hi q => ⟨xs, xs[i], q, by simp [hi]⟩, fun _ q => ⟨xs, q, Nat.le_refl _⟩, fun i H v H' _ q y => ?_⟩
  obtain ⟨T, x, h1, h2, h3, h4⟩ := y
  exact ⟨T, .int (i : Nat), x, h1, h2, h3, rfl, h4 xs q⟩
end L2
set_option maxHeartbeats 2000000
/-! min of tuples of ints: the order is told by the heap -/
namespace PySem
open Sem (wp)
section
variable {prog : Program} {w : World} {A : Around} {R : Result → Shared → Prop} {I : Addr} {fp wr : List Addr} {n : Nat} {P : Nat → Value → Prop} {St : Nat → Heap → Prop}
theorem minT_loop (W : Walks prog w A.in1 I fp wr n P St) (bt : Nat → Nat → Bool) (S : Addr) (hSf : S ∉ fp) (Hd : Heap → Prop) (hkeep : ∀ h h' : Heap, Hd h → (∀ b o, b ∉ wr → b ≠ S → h.get? b = some o → h'.get? b = some o) → Hd h')
    (hcmp : ∀ i j vi vj (s : Shared) (Q : Value → Shared → Prop) (E : Value → Shared → Prop), Hd s.heap → P i vi → P j vj → Q (.bool (bt i j)) s → wpAny (model prog w) A.in1 (richCompare .Lt vi vj) Q E s) :
    ∀ (k j : Nat) (s : Shared) (vb : Value) (c : Nat), Hd s.heap → n - (j + 1) = k → j + 1 ≤ n → St (j + 1) s.heap → P (argBest bt j) vb →
    s.heap.get? S = some { cls := .type "list", dict := none, data := .seq #[vb, vb] c, slots := #[] } →
    (∀ v h' tk, P (argBest bt (n - 1)) v → (∀ b o, b ∉ wr → b ≠ S → s.heap.get? b = some o → h'.get? b = some o) → R (.ok (.ret v)) { s with heap := h', toks := tk }) →
    codeAny (model prog w) A (.builtin "min.loop" ⟨[.ref I, .none, .ref S], []⟩) R s := by
  have hSw : S ∉ wr := fun h => hSf (W.sub _ h)
  have hname : (toString "min" ++ toString ".loop" : String) = "min.loop" := by decide
  intro k
  induction k with
  | zero =>
    intro j s vb c hHd hk hj hst hPb hS hR
    have hin : j + 1 = n := by omega
    refine codeAny_builtin F.entry_min_loop ?_
    rw [Around.under_plainId F.plain_min_loop _]
    show wpAny _ A.in1 (seqItems? (.ref S) >>= _) _ _ s
    refine wpAny_bind (wpAny_seqItems hS rfl ?_)
    show wpAny _ A.in1 (tryCatch (pyNext (.ref I)) _ >>= _) _ _ s
    refine wpAny_bind (wpAny_tryCatch (W.done s _ _ (hin ▸ hst) fun h' tk hk' => ?_))
    have hS' := hk' S _ hSw hS
    show wpAny _ A.in1 (updateSeq S (fun _ => #[]) >>= _) _ _ _
    refine wpAny_bind ?_
    refine wpAny_updateSeq hS' rfl (wpAny_bind (wpAny_letGo (wpAny_pure ?_)))
    refine hR vb _ tk (by rw [← hin]; exact hPb) fun b o hbw hbS e => (Heap.get?_update_other _ _ (Ne.symm hbS)).trans (hk' b o hbw e)
  | succ k ih =>
    intro j s vb c hHd hk hj hst hPb hS hR
    have hlt : j + 1 < n := by omega
    refine codeAny_builtin F.entry_min_loop ?_
    rw [Around.under_plainId F.plain_min_loop _]
    show wpAny _ A.in1 (seqItems? (.ref S) >>= _) _ _ s
    refine wpAny_bind (wpAny_seqItems hS rfl ?_)
    show wpAny _ A.in1 (tryCatch (pyNext (.ref I)) _ >>= _) _ _ s
    refine wpAny_bind (wpAny_tryCatch (W.item (j + 1) s _ _ hlt hst fun v h' tk hP hst' hk' => ?_))
    have hS' := hk' S _ hSw hS
    show wpAny _ A.in1 (tryCatch (holding [v, v] (richCompare .Lt v vb >>= _)) _ >>= _) _ _ _
    refine wpAny_bind (wpAny_tryCatch (wpAny_holding (wpAny_bind (hcmp (j + 1) (argBest bt j) v vb _ _ _ (hkeep _ _ hHd fun b o hb _ e => hk' b o hb e) hP hPb ?_))))
    refine wpAny_bind (wpAny_holding (wpAny_truthy_bool ?_))
    refine wpAny_bind (wpAny_letGo (wpAny_pure ?_))
    cases hb : bt (j + 1) (argBest bt j) with
    | true =>
      simp only [if_true]
      refine wpAny_bind ?_
      refine wpAny_updateSeq hS' rfl (wpAny_bind (wpAny_letGo ?_))
      rw [hname]
      refine wpAny_pure ⟨plainId_quiet F.plain_min_loop _, ih (j + 1) _ v _ (hkeep _ _ (hkeep _ _ hHd fun b o hb _ e => hk' b o hb e) fun b o _ hbS e => (Heap.get?_update_other _ _ (Ne.symm hbS)).trans e) (by omega) hlt (W.frame _ _ _ hst' fun b hbf o e => ?_) (by simp only [argBest, hb, if_true]; exact hP) (Heap.get?_update_self _ hS' rfl)
        fun v' h'' tk'' hP' hk'' => ?_⟩
      · exact (Heap.get?_update_other _ _ (fun h : S = b => hSf (by rw [h]; exact hbf))).trans e
      · exact hR v' h'' tk'' hP' fun b o hbw hbS e => hk'' b o hbw hbS ((Heap.get?_update_other _ _ (Ne.symm hbS)).trans (hk' b o hbw e))
    | false =>
      simp only [Bool.false_eq_true, if_false]
      refine wpAny_bind (wpAny_letGo ?_)
      rw [hname]
      refine wpAny_pure ⟨plainId_quiet F.plain_min_loop _, ih (j + 1) _ vb c (hkeep _ _ hHd fun b o hb _ e => hk' b o hb e) (by omega) hlt hst' (by simp only [argBest, hb, Bool.false_eq_true, if_false]; exact hPb) hS' fun v' h'' tk'' hP' hk'' => ?_⟩
      exact hR v' h'' tk'' hP' fun b o hbw hbS e => hk'' b o hbw hbS (hk' b o hbw e)
theorem minT_first (W : Walks prog w A.in1 I fp wr n P St) (bt : Nat → Nat → Bool) (S : Addr) (hSf : S ∉ fp) (Hd : Heap → Prop) (hkeep : ∀ h h' : Heap, Hd h → (∀ b o, b ∉ wr → b ≠ S → h.get? b = some o → h'.get? b = some o) → Hd h')
    (hcmp : ∀ i j vi vj (s : Shared) (Q : Value → Shared → Prop) (E : Value → Shared → Prop), Hd s.heap → P i vi → P j vj → Q (.bool (bt i j)) s → wpAny (model prog w) A.in1 (richCompare .Lt vi vj) Q E s) (hn : 0 < n) {s : Shared} {c : Nat} (hHd : Hd s.heap) (hst : St 0 s.heap)
    (hS : s.heap.get? S = some { cls := .type "list", dict := none, data := .seq #[] c, slots := #[] })
    (hR : ∀ v h' tk, P (argBest bt (n - 1)) v → (∀ b o, b ∉ wr → b ≠ S → s.heap.get? b = some o → h'.get? b = some o) → R (.ok (.ret v)) { s with heap := h', toks := tk }) :
    codeAny (model prog w) A (.builtin "min.loop" ⟨[.ref I, .none, .ref S], []⟩) R s := by
  have hSw : S ∉ wr := fun h => hSf (W.sub _ h)
  have hname : (toString "min" ++ toString ".loop" : String) = "min.loop" := by decide
  refine codeAny_builtin F.entry_min_loop ?_
  rw [Around.under_plainId F.plain_min_loop _]
  show wpAny _ A.in1 (seqItems? (.ref S) >>= _) _ _ s
  refine wpAny_bind (wpAny_seqItems hS rfl ?_)
  show wpAny _ A.in1 (tryCatch (pyNext (.ref I)) _ >>= _) _ _ s
  refine wpAny_bind (wpAny_tryCatch (W.item 0 s _ _ hn hst fun v h' tk hP hst' hk' => ?_))
  have hS' := hk' S _ hSw hS
  show wpAny _ A.in1 (updateSeq S (fun _ => #[v, v]) >>= _) _ _ _
  refine wpAny_bind ?_
  refine wpAny_updateSeq hS' rfl ?_
  rw [hname]
  refine wpAny_pure ⟨plainId_quiet F.plain_min_loop _, minT_loop W bt S hSf Hd hkeep hcmp _ 0 _ v _ (hkeep _ _ (hkeep _ _ hHd fun b o hb _ e => hk' b o hb e) fun b o _ hbS e => (Heap.get?_update_other _ _ (Ne.symm hbS)).trans e) rfl hn (W.frame _ _ _ hst' fun b hbf o e => ?_) hP (Heap.get?_update_self _ hS' rfl) fun v' h'' tk'' hP' hk'' => ?_⟩
  · exact (Heap.get?_update_other _ _ (fun h : S = b => hSf (by rw [h]; exact hbf))).trans e
  · exact hR v' h'' tk'' hP' fun b o hbw hbS e => hk'' b o hbw hbS ((Heap.get?_update_other _ _ (Ne.symm hbS)).trans (hk' b o hbw e))
end
theorem call_minT {prog : Program} {w : World} {A : Around} {E : Value → Shared → Prop} {s : Shared} {x : Value} {Q : Value → Shared → Prop}
    (h : wpAny (model prog w) A.in1 (pyIter x) (fun it s₂ => ∃ I fp wr n P St bt, ∃ Hd : Heap → Prop, it = .ref I ∧ Walks prog w A.in1 I fp wr n P St ∧ St 0 s₂.heap ∧ (∀ b ∈ fp, b < s₂.heap.objs.size) ∧ 0 < n ∧ Hd s₂.heap ∧
      (∀ h h' : Heap, Hd h → (∀ b o, b ∉ wr → b ≠ s₂.heap.objs.size → h.get? b = some o → h'.get? b = some o) → Hd h') ∧
      (∀ i j vi vj (s : Shared) (Q : Value → Shared → Prop) (E : Value → Shared → Prop), Hd s.heap → P i vi → P j vj → Q (.bool (bt i j)) s → wpAny (model prog w) A.in1 (richCompare .Lt vi vj) Q E s) ∧
      ∀ v h' tk, P (argBest bt (n - 1)) v → (∀ b o, b ∉ wr → s₂.heap.get? b = some o → h'.get? b = some o) → Q v { s₂ with heap := h', toks := tk }) E s) :
    wpAny (model prog w) A (call (.builtin "min") [x]) Q E s := by
  have hname : (toString "min" ++ toString ".loop" : String) = "min.loop" := by decide
  refine call_function_tree F.kind_min F.plain_min F.entry_min (F.args_min1 _) ?_
  show wpAny _ A.in1 (Builtin.Builtins.bindParams "min" ["key", "default"] 0 ⟨[], []⟩ >>= _) _ _ s
  refine wpAny_bind (wpAny_of_eq (show Builtin.Builtins.bindParams "min" ["key", "default"] 0 ⟨[], []⟩ = pure [none, none] from rfl) ?_)
  refine wpAny_bind (wpAny_pure ?_)
  refine wpAny_bind (wpAny_mono h (fun it s₂ h₂ => ?_) fun _ _ e => e)
  obtain ⟨I, fp, wr, n, P, St, bt, Hd, rfl, W, hst, hfp, hn, hHd, hkeep, hcmp, hQ⟩ := h₂
  refine wpAny_bind (wpAny_newObj_type ?_)
  have hSf : s₂.heap.objs.size ∉ fp := fun hm => Nat.lt_irrefl _ (hfp _ hm)
  have hSw : s₂.heap.objs.size ∉ wr := fun hm => hSf (W.sub _ hm)
  rw [hname]
  refine wpAny_pure ⟨plainId_quiet F.plain_min_loop _, minT_first W bt s₂.heap.objs.size hSf Hd hkeep hcmp hn (hkeep _ _ hHd fun b o _ _ e => Heap.get?_push_of_some _ e) (W.frame _ _ _ hst fun b _ o e => Heap.get?_push_of_some _ e) (Heap.get?_push_size _ rfl) fun v h' tk hP hk => ?_⟩
  exact hQ v h' tk hP fun b o hbw e => hk b o hbw (Nat.ne_of_lt (Heap.lt_size e)) (Heap.get?_push_of_some _ e)
end PySem
namespace L2
open PySem PySem.Spec PyProof.Rows
/-- each item a tuple of ints -/
def TupInts (K : PySem.W.Frag) (H : Hp) (zs : List V) (ks : List (List Int)) : Prop := zs.length = ks.length ∧ ∀ (i : Nat) z k, zs[i]? = some z → ks[i]? = some k → ∃ t, z = .ref t ∧ SqT K H t (k.map V.int)
def bestAt (ks : List (List Int)) : Nat := argBest (fun i j => HT.lexLt (ks.getD i []) (ks.getD j [])) (ks.length - 1)
def rMinT (K : PySem.W.Frag) : List V → Hp → VK → Prop := fun vs H Q => ∃ (a : Addr) (zs : List V) (ks : List (List Int)), vs = [V.ref a] ∧ (SqL K H a zs ∨ SqT K H a zs) ∧ TupInts K H zs ks ∧ 0 < ks.length ∧ ∀ z, zs[bestAt ks]? = some z → Q z H
section
variable {X : Cx}
theorem cr_minT (hc : X.calm = true) (hu : X.A.units + 2 < cLine) : CallR X (.builtin "min") (rMinT X.K) := by
  intro pins s σ H vs us Q I r h
  obtain ⟨a, zs, ks, rfl, hs, ⟨hl, ht⟩, hne, q⟩ := h
  rw [Vals.ref1 r]
  -- what the order leans on
  have core : ∀ (its : List Value), Vals zs its → ∀ (s₂ : Shared), (∀ b o, s.heap.get? b = some o → s₂.heap.get? b = some o) → ∃ Hd : Heap → Prop, Hd s₂.heap ∧
      (∀ (wr : List Addr) (S : Addr), (∀ b ∈ wr, s.heap.objs.size ≤ b) → s.heap.objs.size ≤ S → ∀ h h' : Heap, Hd h → (∀ b o, b ∉ wr → b ≠ S → h.get? b = some o → h'.get? b = some o) → Hd h') ∧
      (∀ i j vi vj (s : Shared) (Q : Value → Shared → Prop) (E : Value → Shared → Prop), Hd s.heap → its.toArray[i]? = some vi → its.toArray[j]? = some vj → Q (.bool (HT.lexLt (ks.getD i []) (ks.getD j []))) s → wpAny (model X.prog X.w) X.A.in1 (richCompare .Lt vi vj) Q E s) := by
    intro its rv s₂ hk
    refine ⟨fun h => ∀ (i : Nat) (u : Value), its[i]? = some u → ∃ t o n js, u = .ref t ∧ s.heap.get? t = some o ∧ h.get? t = some o ∧ o.cls = .type "tuple" ∧ o.data = .seq js n ∧ IntsAre js.toList (ks.getD i []), fun i u hu => ?_, fun wr S hw hS h h' hd hk' i u hu => ?_, fun i j vi vj s Q E hd hi hj q => ?_⟩
    · have hlen := rv.length
      have hi : i < zs.length := by rw [hlen]; exact (List.getElem?_eq_some_iff.mp hu).1
      obtain ⟨u', hu', ru⟩ := rv.get (List.getElem?_eq_getElem hi)
      rw [hu] at hu'
      cases hu'
      have hik : i < ks.length := by omega
      obtain ⟨t, e1, hT⟩ := ht i _ _ (List.getElem?_eq_getElem hi) (List.getElem?_eq_getElem hik)
      rw [e1] at ru
      cases ru
      obtain ⟨js, rj, ⟨o, ho, hcl, n, hd⟩, _⟩ := I.tuple hT
      refine ⟨t, o, n, js.toArray, rfl, ho, hk _ _ ho, hcl, hd, ?_⟩
      have e2 : ks.getD i [] = ks[i] := by simp [List.getD_eq_getElem?_getD, List.getElem?_eq_getElem hik]
      rw [e2]
      exact intsAre_of rj
    · obtain ⟨t, o, n, js, e1, h0, h1, h2, h3, h4⟩ := hd i u hu
      have hlt := Heap.lt_size h0
      exact ⟨t, o, n, js, e1, h0, hk' t o (fun z => Nat.lt_irrefl _ (Nat.lt_of_lt_of_le hlt (hw t z))) (Nat.ne_of_lt (Nat.lt_of_lt_of_le hlt hS)) h1, h2, h3, h4⟩
    · obtain ⟨t, o, n, js, e1, _, h1, h2, h3, h4⟩ := hd i vi (by simpa using hi)
      obtain ⟨t', o', n', js', e1', _, h1', h2', h3', h4'⟩ := hd j vj (by simpa using hj)
      subst e1 e1'
      exact HT.lt_tupInts (A := X.A.in1) ⟨o, h1, h2, n, h3⟩ ⟨o', h1', h2', n', h3'⟩ h4 h4' (by show X.A.units + 1 < cLine; omega) q
  have fin : ∀ (its : List Value), Vals zs its → ∀ v, its.toArray[bestAt ks]? = some v → ∀ s', Inv X pins σ H s' → EP X pins σ Q v s' := by
    intro its rv v hv s' I'
    have hv' : its[bestAt ks]? = some v := by simpa using hv
    have hlen := rv.length
    have hi : bestAt ks < zs.length := by rw [hlen]; exact (List.getElem?_eq_some_iff.mp hv').1
    obtain ⟨u', hu', ru⟩ := rv.get (List.getElem?_eq_getElem hi)
    rw [hv'] at hu'
    cases hu'
    exact ⟨zs[bestAt ks], H, I', ru, q _ (List.getElem?_eq_getElem hi)⟩
  rcases hs with hs | hs
  · obtain ⟨its, rv, pl, _⟩ := I.list hs
    have hlen := rv.length
    refine call_minT (iter_any pl.isList fun s₂ e2 st hneq => ?_)
    subst e2
    obtain ⟨Hd, hd, hkeep, hcmp⟩ := core its rv { s with heap := s.heap.push { cls := .type "list_iterator", data := .fields #[.ref a, .int 0 0] } } (fun b o e => Heap.get?_push_of_some _ e)
    refine ⟨_, _, _, _, _, _, _, Hd, rfl, Walks.list (A := X.A.in1) (I.ok.hd hc) _ a hneq its.toArray, st, fun b hb => ?_, by simp; omega, hd, hkeep _ _ (fun b hb => ?_) ?_, hcmp, fun v h' tk hv hk => ?_⟩
    · have hlt : a < s.heap.objs.size := by obtain ⟨_, e, _⟩ := pl.isList; exact Heap.lt_size e
      have e' : b = s.heap.objs.size ∨ b = a := by simpa using hb
      show b < (s.heap.push _).objs.size
      rw [Heap.size_push]
      rcases e' with z | z
      · rw [z]; exact Nat.lt_succ_self _
      · rw [z]; exact Nat.lt_succ_of_lt hlt
    · have e' : b = s.heap.objs.size := by simpa using hb
      exact Nat.le_of_eq e'.symm
    · show _ ≤ (s.heap.push _).objs.size
      rw [Heap.size_push]; exact Nat.le_succ _
    · refine fin its rv v ?_ _ (I.kept fun b o eo => hk b o (fun hmem => ?_) (Heap.get?_push_of_some _ eo))
      · have e1 : its.toArray.size - 1 = ks.length - 1 := by simp; omega
        unfold bestAt
        rw [← e1]
        exact hv
      · have e' : b = s.heap.objs.size := by simpa using hmem
        have h9 := Heap.lt_size eo
        rw [e'] at h9
        exact Nat.lt_irrefl _ h9
  · obtain ⟨its, rv, pl, _⟩ := I.tuple hs
    have hlen := rv.length
    have pT : s.heap.IsTuple a its.toArray := by obtain ⟨o, h1, h2, n, h3⟩ := pl; exact ⟨o, h1, h2, n, h3⟩
    have hlt : a < s.heap.objs.size := by obtain ⟨_, e, _⟩ := pT; exact Heap.lt_size e
    refine call_minT (wpAny_pyIter_tuple pT ?_)
    obtain ⟨Hd, hd, hkeep, hcmp⟩ := core its rv { s with heap := s.heap.push { cls := .type "tuple_iterator", data := .fields #[.ref a, .int 0 0] } } (fun b o e => Heap.get?_push_of_some _ e)
    refine ⟨_, _, _, _, _, _, _, Hd, rfl, Walks.tuple (A := X.A.in1) (I.ok.hd hc) _ a (Nat.ne_of_lt hlt) its.toArray, ⟨⟨_, Heap.get?_push_size _ rfl, rfl, rfl⟩, ?_⟩, fun b hb => ?_, by simp; omega, hd, hkeep _ _ (fun b hb => ?_) ?_, hcmp, fun v h' tk hv hk => ?_⟩
    · obtain ⟨o, h1, h2, n, h3⟩ := pT
      exact ⟨o, Heap.get?_push_of_some _ h1, h2, n, h3⟩
    · have e' : b = s.heap.objs.size ∨ b = a := by simpa using hb
      show b < (s.heap.push _).objs.size
      rw [Heap.size_push]
      rcases e' with z | z
      · rw [z]; exact Nat.lt_succ_self _
      · rw [z]; exact Nat.lt_succ_of_lt hlt
    · have e' : b = s.heap.objs.size := by simpa using hb
      exact Nat.le_of_eq e'.symm
    · show _ ≤ (s.heap.push _).objs.size
      rw [Heap.size_push]; exact Nat.le_succ _
    · refine fin its rv v ?_ _ (I.kept fun b o eo => hk b o (fun hmem => ?_) (Heap.get?_push_of_some _ eo))
      · have e1 : its.toArray.size - 1 = ks.length - 1 := by simp; omega
        unfold bestAt
        rw [← e1]
        exact hv
      · have e' : b = s.heap.objs.size := by simpa using hmem
        have h9 := Heap.lt_size eo
        rw [e'] at h9
        exact Nat.lt_irrefl _ h9
end
end L2
set_option maxHeartbeats 2000000
/-! a def's promise where no repr is under way (for repr of nested data) -/
namespace L2
open PySem PySem.Spec PyProof.Rows
structure FnOkG (P : Program) (w : World) (K : PySem.W.Frag) (mg : Str → Option Value) (base : Heap) (CX : CXT) (k : Nat) (f : Addr) (fd : FuncData) (ps : List Str) (sp : Sp) : Prop where
  len : ∀ vs H Q E, sp vs H Q E → vs.length = ps.length
  run : ∀ (A : Around) (outer : List PySem.Env) (s : Shared) (H : Hp) (args : Args) (us : List Value) (vs : List V) (Q : VK) (E : XK), Room k A → A.guards = some [] → Env0 P w K mg base A outer s H → BindsTo s fd args (ps.zip us) → Vals vs us → sp vs H Q E →
    codeAny (model P w) A (.call (.ref f) args) (CR CX outer P w H s Q E) s
section
variable {P : Program} {w : World} {K : PySem.W.Frag} {mg : Str → Option Value} {base : Heap} {CX : CXT} {j k : Nat} {f : Addr} {fd : FuncData} {ps : List Str} {sp sp' : Sp}
theorem FnOkG.mono (F : FnOkG P w K mg base CX j f fd ps sp) (h : j ≤ k) : FnOkG P w K mg base CX k f fd ps sp := ⟨F.len, fun A outer s H args us vs Q E hr => F.run A outer s H args us vs Q E (hr.mono h)⟩
theorem FnOkG.imp (F : FnOkG P w K mg base CX k f fd ps sp) (h : ∀ vs H Q E, sp' vs H Q E → sp vs H Q E) : FnOkG P w K mg base CX k f fd ps sp' :=
  ⟨fun vs H Q E q => F.len vs H Q E (h _ _ _ _ q), fun A outer s H args us vs Q E hr hg he hb hv hs => F.run A outer s H args us vs Q E hr hg he hb hv (h _ _ _ _ hs)⟩
end
section
variable {X : Cx} {CX : CXT} {k : Nat} {f C : Addr} {fd : FuncData} {ps : List Str} {sp : Sp} {dvs : List V} {ds : List Value} {E : XK} {x m : Str} {p pos apos : Pos} {e o : Expr} {es : List Expr} {ta : TE} {t : TA}
theorem run_fnG {pins : List (Addr × Obj)} {σ : St} {H : Hp} {s : Shared} {Q : VK} {us : List Value} {vs : List V} (F : FnOkG X.prog X.w X.K X.mg X.base CX k f fd ps sp) (hr : Room k X.A) (hgd : X.A.guards = some []) (hb : Binds X.K fd ps ds) (hd : Vals dvs ds) (hx : Passes CX X E)
    (I : Inv X pins σ H s) (r : Vals vs us) (h : sp (vs ++ dvs) H Q E) : wpAny (model X.prog X.w) X.A (call (.ref f) us) (EP X pins σ Q) X.xe s := by
  have r2 : Vals (vs ++ dvs) (us ++ ds) := r.append hd
  have hl : (us ++ ds).length = ps.length := by rw [← r2.length]; exact F.len _ _ _ _ h
  refine wpAny_call (codeAny_mono (F.run X.A X.stack s H ⟨us, []⟩ (us ++ ds) (vs ++ dvs) Q E hr hgd I.env0 (hb s us I.kIn hl) r2 h) fun r s' hq => ?_)
  cases r with
  | error e => exact hx pins σ H s e s' I hq
  | ok fl =>
    cases fl with
    | ret u => exact I.after hq
    | next => exact False.elim hq
    | brk => exact False.elim hq
    | cont => exact False.elim hq
theorem pe_callG (F : FnOkG X.prog X.w X.K X.mg X.base CX k f fd ps sp) (hr : Room k X.A) (hgd : X.A.guards = some []) (hg : Gl X x) (hm : X.mg x = some (.ref f)) (hk : PySem.W.keepIn X.K (.ref f) = true) (hb : Binds X.K fd ps ds) (hd : Vals dvs ds) (hx : Passes CX X E)
    (ha : PA X (e :: es) t) (hdb : (x == ("__debug__" : Str)) = false := by decide) (he : starEach (e :: es) X.env = (false, eval e X.env) :: starEach es X.env := by rfl) (hpl : (backTo pos (starEach es X.env)).any (·.1) = false := by rfl) :
    PE X (.Call (.Name x p) (e :: es) [] pos) (tCall sp dvs E t) := by
  refine ⟨fun pins s σ H Q I h => ?_⟩
  refine wpAny_Call_Name_kw (ld_glob I hg hm ?_ hdb)
  refine PySem.W.callWith_K (h₀ := X.base) I.ok.mod.kin hk (thn (ha.run pos pins s σ H _ I h) fun us s1 ⟨vs, H1, I1, r, q⟩ => ⟨I1.kIn, ?_⟩) he hpl
  exact run_fnG F hr hgd hb hd hx I1 r q
theorem pe_call0G (F : FnOkG X.prog X.w X.K X.mg X.base CX k f fd ps sp) (hr : Room k X.A) (hgd : X.A.guards = some []) (hg : Gl X x) (hm : X.mg x = some (.ref f)) (hk : PySem.W.keepIn X.K (.ref f) = true) (hb : Binds X.K fd ps ds) (hd : Vals dvs ds) (hx : Passes CX X E)
    (hdb : (x == ("__debug__" : Str)) = false := by decide) : PE X (.Call (.Name x p) [] [] pos) (tCall sp dvs E tNil) := by
  refine ⟨fun pins s σ H Q I h => ?_⟩
  refine wpAny_Call_Name_kw (ld_glob I hg hm ?_ hdb)
  exact PySem.W.callWith_K0 I.kIn hk (run_fnG (us := []) F hr hgd hb hd hx I .nil h)
end
section
variable {X : Cx} {CX : CXT} {k n : Nat} {f : Addr} {fd : FuncData} {ps ks : List Str} {sp : Sp} {E : XK} {x : Str} {p pos : Pos} {e : Expr} {es : List Expr} {kws : List Keyword} {t tk : TA} {g : List Value → List Value → List Value} {gV : List V → List V → List V}
theorem run_fnNG {pins : List (Addr × Obj)} {σ : St} {H : Hp} {s : Shared} {Q : VK} {us ws : List Value} {vs zs : List V} (F : FnOkG X.prog X.w X.K X.mg X.base CX k f fd ps sp) (hr : Room k X.A) (hgd : X.A.guards = some []) (hb : KBn X.K fd ps n ks g gV) (hx : Passes CX X E)
    (I : Inv X pins σ H s) (r : Vals vs us) (rz : Vals zs ws) (l1 : vs.length = n) (l2 : zs.length = ks.length) (h : sp (gV vs zs) H Q E) : wpAny (model X.prog X.w) X.A (call (.ref f) us (ks.zip ws)) (EP X pins σ Q) X.xe s := by
  have r2 := hb.rel r rz
  refine wpAny_call (codeAny_mono (F.run X.A X.stack s H ⟨us, ks.zip ws⟩ (g us ws) (gV vs zs) Q E hr hgd I.env0 (hb.to s us ws I.kIn (r.length.symm.trans l1) (rz.length.symm.trans l2)) r2 h) fun r s' hq => ?_)
  cases r with
  | error e => exact hx pins σ H s e s' I hq
  | ok fl =>
    cases fl with
    | ret u => exact I.after hq
    | next => exact False.elim hq
    | brk => exact False.elim hq
    | cont => exact False.elim hq
/-- f(e, .., k = v, ..) -/
theorem pe_callNG (F : FnOkG X.prog X.w X.K X.mg X.base CX k f fd ps sp) (hr : Room k X.A) (hgd : X.A.guards = some []) (hg : Gl X x) (hm : X.mg x = some (.ref f)) (hk : PySem.W.keepIn X.K (.ref f) = true) (hb : KBn X.K fd ps n ks g gV) (hx : Passes CX X E)
    (ha : PA X (e :: es) t) (hkw : PK X kws tk) (hall : (backToKw pos (keywordEach kws X.env)).all (·.1.isSome) = true := by rfl) (hks : (backToKw pos (keywordEach kws X.env)).filterMap (·.1) = ks := by rfl)
    (hdb : (x == ("__debug__" : Str)) = false := by decide) (he : starEach (e :: es) X.env = (false, eval e X.env) :: starEach es X.env := by rfl)
    (hpl : ((backTo pos (starEach (e :: es) X.env)).any (·.1) || (backToKw pos (keywordEach kws X.env)).any (·.1.isNone)) = false := by rfl) :
    PE X (.Call (.Name x p) (e :: es) kws pos) (tCallN n ks.length sp gV E t tk) := by
  refine ⟨fun pins s σ H Q I h => ?_⟩
  refine wpAny_Call_Name_kw (ld_glob I hg hm ?_ hdb)
  refine PySem.W.callWith_KW (h₀ := X.base) I.ok.mod.kin hk hall (thn (ha.run pos pins s σ H _ I h) fun us s1 ⟨vs, H1, I1, r, q⟩ => ?_) hpl he
  refine thn (hkw.run pos pins s1 σ H1 _ I1 q) fun ws s2 ⟨zs, H2, I2, rz, l1, l2, q2⟩ => ⟨I2.kIn, ?_⟩
  rw [hks]
  exact run_fnNG F hr hgd hb hx I2 r rz l1 l2 q2
end
theorem fnG_of {CX : CXT} {P : Program} {w : World} {K : PySem.W.Frag} {mg : Str → Option Value} {base : Heap} {k : Nat} {f : Addr} {name qual : Str} {params : Arguments} {body : List Stmt} {scope : Scope} {dV kV doc pm cdv ct oc : Value} {an od : Option Addr}
    {osl : Array (Option Value)} {N ps : List Str} {sp : Sp} (lk : K.lookup f = some ⟨oc, od, .func (PySem.W.fnOf name qual params body scope dV kV doc pm an cdv ct), osl⟩) (hcd : PySem.W.codeIn K cdv qual = true) (S : FnScope N ps scope)
    (len : ∀ vs H Q E, sp vs H Q E → vs.length = ps.length)
    (hbody : ∀ (A : Around) (outer : List PySem.Env) (s : Shared) (H : Hp) (vs : List V) (Q : VK) (E : XK), Room k (A.deeper (envOfC qual scope s.heap.objs.size f cdv)) → A.guards = some [] → sp vs H Q E →
      ∃ t, PSs (cxOf CX P w K mg base N qual scope f cdv A outer s H E) body t ∧ t { nx := fun _ H' => Q .non H', rt := Q } (start N vs) H) :
    FnOkG P w K mg base CX (k + 1) f (PySem.W.fnOf name qual params body scope dV kV doc pm an cdv ct) ps sp := by
  refine ⟨len, fun A outer s H args us vs Q E hr hgd e0 hb r hsp => ?_⟩
  have hl := len _ _ _ _ hsp
  have KX : K.In s.heap := e0.mod.kin.keeps fun b o e => (e0.bs b o e).1
  have lim : s.heap.NoLimit := e0.mod.nolimit.keeps fun b o e => (e0.bs b o e).1
  have hkind : ∀ y ∈ ps.zip us, scope.names.lookup y.1 = some .local ∨ (scope.names.lookup y.1 = some .cell ∧ ((cellsFrom (s.heap.objs.size + 1) scope.names []).lookup y.1).isSome = true) := fun ⟨n, v⟩ hy => by
    rcases S.par n (List.of_mem_zip hy).1 with q | q
    · exact .inl q
    · exact .inr ⟨q, PySem.W.cellsFrom_some _ _ _ (.inl q)⟩
  refine codeAny_call_function hr.depth (KX _ _ lk) rfl S.co S.gen rfl (PySem.W.codeRec_of KX hcd) (hb _ _ _ _ ?_)
  refine wpAny_newFunctionEnv_cells S.kind hkind fun env he s1 x => ?_
  subst he
  refine ⟨lim.keeps x.toInCall.keep, codeAny_func ?_⟩
  obtain ⟨t, ht, hq⟩ := hbody A outer s H vs Q E (hr.deeper _) hgd hsp
  have I : Inv (cxOf CX P w K mg base N qual scope f cdv A outer s H E) [] (start N vs) H s1 := inv_start S hr.hd e0 hl r x
  refine wpAny_mono (ht.run [] s1 (start N vs) H _ I hq) (fun fl s' hs => ?_) fun e s' hs => hs
  have fin : ∀ {σ' : St} {H' : Hp} {v : V} {u : Value}, Inv (cxOf CX P w K mg base N qual scope f cdv A outer s H E) [] σ' H' s' → RelV v u → Q v H' → CE outer P w H s Q u s' :=
    fun {σ' H' v u} J rv q => ⟨v, H', J.os, J.bare, J.base, J.hok, rv, q⟩
  cases fl with
  | ret u =>
    obtain ⟨v, σ', H', J, rv, q⟩ := hs
    exact fin J rv q
  | next =>
    obtain ⟨σ', H', J, q⟩ := hs
    exact fin (v := V.non) (u := Value.none) J rfl q
  | brk =>
    obtain ⟨_, _, _, q⟩ := hs
    exact False.elim q
  | cont =>
    obtain ⟨_, _, _, q⟩ := hs
    exact False.elim q
theorem lawG_call {P : Program} {w : World} {K : PySem.W.Frag} {mg mb : Str → Option Value} {CX : CXT} {k : Nat} {fa a : Addr} {fd : FuncData} {x : Str} {sp : Sp} {s₁ : Shared} {vs : List Value} {ns : List Int}
    (KX : K.In s₁.heap) (hns : s₁.heap.Ns mainGlobals mg) (hb : s₁.heap.Ns builtinsNs mb) (hbb : ∀ x : Str, x ≠ "__name__" → mb x = bootBuiltins x) (hlim : s₁.heap.NoLimit) (hg : s₁.gens = #[])
    (ha : s₁.heap.get? a = some { cls := .type "list", data := .seq vs.toArray }) (hi : IntsAre vs ns) (hl : ns.length ≤ sizeLine) (hr : Room k callerA)
    (F : ∀ base : Heap, K.In base → base.Ns mainGlobals mg → FnOkG P w K mg base CX k fa fd [x] sp) (hbind : ∀ (s : Shared) (u : Value), BindsTo s fd ⟨[u], []⟩ [(x, u)])
    (hsp : ∀ H : Hp, Only H → SqL K H a (ns.map V.int) → sp [.ref a] H (fun v _ => v = .bl true) fun _ _ _ => False)
    (hCX : ∀ H e s', CX [] H s₁ (fun _ _ _ => False) e s' → False) :
    codeAny (model P w) callerA (.call (.ref fa) ⟨[.ref a], []⟩) (fun r s' => r = .ok (.ret (.bool true)) ∧ OldK s₁.heap s'.heap ∧ s'.os = s₁.os ∧ AllBare s'.gens) s₁ := by
  have rv := vals_ints hi
  have lenV := hi.length
  -- from an abstract heap in which nothing but the script may be tracked
  have core : ∀ H : Hp, Only H → SqL K H a (ns.map V.int) → HOk P w H s₁.heap → (∀ b, H b ≠ none → b = a) → (H a ≠ none → K.lookup a = none) →
      codeAny (model P w) callerA (.call (.ref fa) ⟨[.ref a], []⟩) (fun r s' => r = .ok (.ret (.bool true)) ∧ OldK s₁.heap s'.heap ∧ s'.os = s₁.os ∧ AllBare s'.gens) s₁ := by
    intro H hO hS hok hA hK
    have base_of : ∀ {b : Addr} {o : Obj}, s₁.heap.get? b = some o → H b = none → (hidT s₁.heap H).get? b = some o := fun e n => hidT_get e n
    have noA : ∀ {b : Addr} {o : Obj} {es : Array DictEntry} {ep : Nat}, s₁.heap.get? b = some o → o.data = .dict es ep → H b = none := fun {b o es ep} e d => by
      cases q : H b with
      | none => rfl
      | some u =>
        have e' : b = a := hA b (by rw [q]; simp)
        subst e'
        rw [ha] at e; cases e
        have d' : Data.seq vs.toArray _ = Data.dict es ep := d
        cases d'
    have nsK : ∀ {b : Addr} {m : Str → Option Value}, s₁.heap.Ns b m → (hidT s₁.heap H).Ns b m := fun {b m} ⟨o, es, ep, e, d, r⟩ => ⟨o, es, ep, base_of e (noA e d), d, r⟩
    have hKb : K.In (hidT s₁.heap H) := fun b o e => base_of (KX b o e) (by
      cases q : H b with
      | none => rfl
      | some u =>
        have e' : b = a := hA b (by rw [q]; simp)
        subst e'
        rw [hK (by rw [q]; simp)] at e; cases e)
    have hM : Mod K mg (hidT s₁.heap H) := ⟨hKb, nsK hns, ⟨mb, nsK hb, hbb⟩, let ⟨mc, h1, h2⟩ := hlim; ⟨mc, nsK h1, h2⟩⟩
    have e0 : Env0 P w K mg (hidT s₁.heap H) callerA [] s₁ H := ⟨rfl, hM, fun b o e => of_hidT e, Nat.le_of_eq (hidT_size _ _), trivial, fun b hb => absurd (show b ∈ ([] : List Addr) from hb) (by simp), hok, .of_eq hg⟩
    refine codeAny_mono ((F _ hKb (nsK hns)).run callerA [] s₁ H ⟨[.ref a], []⟩ [.ref a] [.ref a] _ _ hr rfl e0 (hbind s₁ (.ref a)) (.cons rfl .nil) (hsp H hO hS)) fun r s' h => ?_
    cases r with
    | error e => exact (hCX H e s' h).elim
    | ok fl =>
      cases fl with
      | next => exact False.elim h
      | brk => exact False.elim h
      | cont => exact False.elim h
      | ret u =>
        obtain ⟨v, H', os, bare, un, hok', r', q⟩ := h
        have q' : v = .bl true := q
        subst q'
        obtain rfl : u = Value.bool true := r'
        refine ⟨rfl, OldK.of_keep fun b o e => ?_, os, bare⟩
        cases q : H b with
        | none => exact un.keep b o e q (by intro z; exact absurd (show b ∈ ([] : List Addr) from z) (by simp)) (by simp)
        | some u =>
          rcases hO b with z | ⟨ob, xs, z⟩
          · rw [q] at z; cases z
          · have z2 := un.frzs b ob _ z
            obtain ⟨e1, _⟩ := hok b _ z
            obtain ⟨e2, _⟩ := hok' b _ z2
            rw [e] at e1; cases e1
            exact e2
  cases hk : K.lookup a with
  | some o =>
    -- the script is one of the module's own objects
    have e := KX a o hk
    rw [ha] at e
    cases e
    refine core (fun _ => none) (fun _ => .inl rfl) (.inr ⟨_, vs.toArray, _, hk, rfl, rfl, rfl, by rw [List.size_toArray, lenV]; exact hl, by simpa using rv⟩) (fun b u z => by have z' : (none : Option HO) = some u := z; cases z') (fun b z => absurd rfl z) fun z => absurd rfl z
  | none =>
    refine core (fun b => if b = a then some (.frz { cls := .type "list", data := .seq vs.toArray } (.lst (ns.map V.int))) else none) (fun b => ?_) (.inl (.inr ⟨{ cls := .type "list", data := .seq vs.toArray }, if_pos rfl⟩)) (fun b u z => ?_) (fun b z => ?_) fun _ => hk
    · by_cases hb : b = a
      · exact .inr ⟨_, _, if_pos hb⟩
      · exact .inl (if_neg hb)
    · by_cases hb : b = a
      · have z' := (if_pos hb).symm.trans z
        cases z'
        subst hb
        exact ⟨ha, by rw [List.length_map]; exact hl, vs, _, rv, ha⟩
      · have z' := (if_neg hb).symm.trans z
        cases z'
    · by_cases hb : b = a
      · exact hb
      · exact absurd (if_neg hb) z
theorem walkG_of {l : PySem.W.OpenLaw} {n k : Nat} {q : Program} {loose : List Str} {XP : (Str → Option Value) → Heap → Prop} {YP : World → Heap → Prop} {d : DefRec} {K : Params → PySem.W.Frag} {CX : World → CXT} {sp : World → Sp} {x : Str}
    (hn : l.most = some n) (hn2 : n ≤ sizeLine) (hdf : d.params.defaults = []) (hr : Room k callerA)
    (hY : ∀ (w : World) (h : Heap), YP w h → (K w.params).In h)
    (F : ∀ (w : World) (mg : Str → Option Value) (fa : Addr) (h : Heap), (K w.params).In h → h.Ns mainGlobals mg → mg d.name = some (.ref fa) →
      ∃ fd : FuncData, (∀ (s : Shared) (u : Value), BindsTo s fd ⟨[u], []⟩ [(x, u)]) ∧
        ∀ base : Heap, (K w.params).In base → base.Ns mainGlobals mg → FnOkG l.prog w (K w.params) mg base (CX w) k fa fd [x] (sp w))
    (hsp : ∀ (w : World) (H : Hp) (a : Addr) (ns : List Int), ns.length ≤ n → Only H → SqL (K w.params) H a (ns.map V.int) → sp w [.ref a] H (fun v _ => v = .bl true) fun _ _ _ => False)
    (hCX : ∀ (w : World) (H : Hp) (s : Shared) (e : Value) (s' : Shared), CX w [] H s (fun _ _ _ => False) e s' → False) :
    PySem.W.WalkO q loose XP YP l.row.toRowW d [] (fun f vs => PySem.call f vs) := by
  refine Att.attach_call hn hdf fun w s₀ s₁ mg mb fa o pm cd doc a vs ns G Y ho hd hcd hmg hobj hints hlen hg => ?_
  have KX := hY w _ Y
  obtain ⟨fd, hb, hF⟩ := F w mg fa _ KX G.T.g hmg
  exact lawG_call KX G.T.g G.T.b G.T.builtins G.T.nolimit hg hobj hints (Nat.le_trans hlen hn2) hr hF hb (fun H hO hS => hsp w H a ns hlen hO hS) fun H e s' => hCX w H s₁ e s'
end L2
set_option maxHeartbeats 2000000
/-! repr of nested data -/
namespace L2
open PySem PySem.Spec PyProof.Rows
mutual
theorem Dp.noDict {K : PySem.W.Frag} {H : Hp} : ∀ (d : PyData) (v : V), Dp K H v d → d.hasDict = false
  | .none, _, h => rfl
  | .bool _, _, h => rfl
  | .int _, _, h => rfl
  | .str _, _, h => rfl
  | .list ds, _, h => by
    cases h with
    | lst h1 h2 => simp only [PyData.hasDict]; exact Dp.noDictAll ds _ h2
  | .tuple ds, _, h => by
    cases h with
    | tup h1 h2 => simp only [PyData.hasDict]; exact Dp.noDictAll ds _ h2
  | .dict _, _, h => by cases h
theorem Dp.noDictAll {K : PySem.W.Frag} {H : Hp} : ∀ (ds : List PyData) (vs : List V), DpAll K H vs ds → PyData.hasDictAll ds = false
  | [], _, _ => rfl
  | d :: ds, _, h => by
    cases h with
    | cons h1 h2 => simp only [PyData.hasDictAll, Dp.noDict d _ h1, Dp.noDictAll ds _ h2, Bool.or_self]
end
/-! data without lists, with empty dicts -/
mutual
inductive De (K : PySem.W.Frag) (H : Hp) : V → PyData → Prop
  | non : De K H .non .none
  | bl (b : Bool) : De K H (.bl b) (.bool b)
  | int (i : Int) : De K H (.int i) (.int i)
  | str (x : Str) : De K H (.str x) (.str x)
  | tup {a : Addr} {xs : List V} {ds : List PyData} : SqT K H a xs → DeAll K H xs ds → De K H (.ref a) (.tuple ds)
  | dic {a : Addr} : H a = some (.dK []) → De K H (.ref a) (.dict [])
inductive DeAll (K : PySem.W.Frag) (H : Hp) : List V → List PyData → Prop
  | nil : DeAll K H [] []
  | cons {v : V} {vs : List V} {d : PyData} {ds : List PyData} : De K H v d → DeAll K H vs ds → DeAll K H (v :: vs) (d :: ds)
end
section
variable {X : Cx} {pins : List (Addr × Obj)} {σ : St} {H : Hp} {s : Shared}
mutual
theorem De.reads (I : Inv X pins σ H s) : ∀ (d : PyData) (v : V) (u : Value), De X.K H v d → RelV v u → ∃ as, Reads s.heap u d as ∧ sysModules ∉ as
  | .none, _, _, h, r => by cases h; cases r; exact ⟨_, Reads.none, by simp⟩
  | .bool b, _, _, h, r => by cases h; cases r; exact ⟨_, Reads.bool b, by simp⟩
  | .int i, _, _, h, r => by cases h; obtain ⟨t, rfl⟩ := r; exact ⟨_, Reads.int i t, by simp⟩
  | .str x, _, _, h, r => by cases h; obtain ⟨t, rfl⟩ := r; exact ⟨_, Reads.str x t, by simp⟩
  | .list _, _, _, h, _ => by cases h
  | .tuple ds, _, _, h, r => by
    cases h with
    | tup hs ha =>
      cases r
      obtain ⟨its, rv, ⟨o, ho, hc, n, hd⟩, _⟩ := I.tuple hs
      obtain ⟨as, hr, hn⟩ := De.readsAll I ds _ its ha rv
      exact ⟨_, Reads.tuple ho hc hd hr, hn⟩
  | .dict kvs, _, _, h, r => by
    cases h with
    | dic hd =>
      cases r
      obtain ⟨_, hsys, vs, kv, o, es, ep, ho, hx, hdd, _, he, _⟩ := I.hok _ _ hd
      cases kv
      have hes : es.toList = [] := by
        cases hl : es.toList with
        | nil => rfl
        | cons e r => rw [hl] at he; cases he
      refine ⟨_, Reads.dict ho hx.1 hdd (as := []) (bs := []) (by rw [hes]; exact ReadsAll.nil) (by rw [hes]; exact ReadsAll.nil), ?_⟩
      intro hm
      rw [List.append_nil, List.mem_singleton] at hm
      rw [← hm] at hsys
      simp at hsys
theorem De.readsAll (I : Inv X pins σ H s) : ∀ (ds : List PyData) (vs : List V) (us : List Value), DeAll X.K H vs ds → Vals vs us → ∃ as, ReadsAll s.heap us ds as ∧ sysModules ∉ as
  | [], _, _, h, r => by cases h; cases r; exact ⟨_, ReadsAll.nil, by simp⟩
  | d :: ds, _, _, h, r => by
    cases h with
    | cons h1 h2 =>
      cases r with
      | cons r1 r2 =>
        obtain ⟨as, q1, n1⟩ := De.reads I d _ _ h1 r1
        obtain ⟨bs, q2, n2⟩ := De.readsAll I ds _ _ h2 r2
        exact ⟨_, ReadsAll.cons q1 q2, by simp [n1, n2]⟩
end
theorem repr_run {u : Value} {d : PyData} {as : List Addr} {Q : VK} (I : Inv X pins σ H s) (hg : X.A.guards = some []) (hu : X.A.units + 70 < cLine) (r : Reads s.heap u d as) (hs : d.showable = true) (hsm : d.hasDict = true → sysModules ∉ as) (hd : d.depth ≤ 60) (hz : d.shown.length ≤ sizeLine) (q : Q (.str d.shown) H) :
    wpAny (model X.prog X.w) X.A (call (.builtin "repr") [u]) (EP X pins σ Q) X.xe s := by
  have fin : ∀ (h' : Heap) (t tk : Nat), (∀ b o, s.heap.get? b = some o → h'.get? b = some o) → EP X pins σ Q (.str d.shown t) { s with heap := h', toks := tk } := fun h' t tk hk => ⟨.str _, H, I.kept hk, ⟨_, rfl⟩, q⟩
  cases r with
  | none => exact PySem.P.repr_of_none (fin s.heap _ _ fun _ _ e => e)
  | bool b => exact PySem.P.repr_of_bool (fin s.heap _ _ fun _ _ e => e)
  | int i t => exact PySem.P.repr_of_int (of_decide_eq_true hs) (fin s.heap _ _ fun _ _ e => e)
  | str x t => exact PySem.P.repr_of_str (hsz := hz) (fin s.heap _ _ fun _ _ e => e)
  | list h1 h2 h3 h4 => exact repr_of_reads' (.list h1 h2 h3 h4) hs hsm hg (by omega) (fun _ _ e => e) (fun h' t tk hk => fin h' t tk hk) hz
  | tuple h1 h2 h3 h4 => exact repr_of_reads' (.tuple h1 h2 h3 h4) hs hsm hg (by omega) (fun _ _ e => e) (fun h' t tk hk => fin h' t tk hk) hz
  | dict h1 h2 h3 h4 h5 => exact repr_of_reads' (.dict h1 h2 h3 h4 h5) hs hsm hg (by omega) (fun _ _ e => e) (fun h' t tk hk => fin h' t tk hk) hz
end
def rReprD (K : PySem.W.Frag) : List V → Hp → VK → Prop := fun xs H Q => ∃ x d, xs = [x] ∧ (Dp K H x d ∨ De K H x d) ∧ d.showable = true ∧ d.depth ≤ 60 ∧ d.shown.length ≤ sizeLine ∧ Q (.str d.shown) H
theorem call_reprD {X : Cx} (hg : X.A.guards = some []) (hu : X.A.units + 70 < cLine) : CallR X (.builtin "repr") (rReprD X.K) := by
  intro pins s σ H xs us Q I r h
  obtain ⟨x, d, rfl, hd, hs, hdep, hz, q⟩ := h
  obtain ⟨u, rfl, rx⟩ := vals1 r
  rcases hd with hd | hd
  · obtain ⟨as, hr⟩ := Dp.reads I d x u hd rx
    exact repr_run I hg hu hr hs (PyData.noDict_hsm (Dp.noDict d x hd)) hdep hz q
  · obtain ⟨as, hr, hn⟩ := De.reads I d x u hd rx
    exact repr_run I hg hu hr hs (fun _ => hn) hdep hz q
end L2
set_option maxHeartbeats 2000000
/-! t[::-1] of a tuple -/
namespace HT
open PySem PySem.Spec PyProof.Rows
section
variable {prog : Program} {w : World} {A : Around} {E : Value → Shared → Prop} {s : Shared}
theorem adjust_back (n : Nat) : Builtin.Slice.sliceAdjust none none (-1) (n : Int) = ((n : Int) - 1, -1) := by
  unfold Builtin.Slice.sliceAdjust
  simp
theorem places_back (n : Nat) : Builtin.Slice.slicePlaces ((n : Int) - 1) (-1) (-1) = n := by
  unfold Builtin.Slice.slicePlaces
  simp
  split <;> omega
theorem sliceApplied_back {sl : Addr} {vl vu vs : Value} {n : Nat} {Q : Int × Int × Nat → Shared → Prop} (hs : s.heap.IsSliceOf sl vl vu vs) (pl : IsPart vl none) (pu : IsPart vu none) (ps : IsPart vs (some (-1)))
    (h : Q ((n : Int) - 1, -1, n) s) : wpAny (model prog w) A (Builtin.Slice.sliceApplied (.ref sl) (pure (n : Int))) Q E s := by
  obtain ⟨os, hos, hcs, hds⟩ := id hs
  unfold Builtin.Slice.sliceApplied Builtin.Slice.sliceFields
  refine wpAny_bind (wpAny_bind (wpAny_field hos hds (x := vl) rfl (wpAny_bind (wpAny_field hos hds (x := vu) rfl (wpAny_bind (wpAny_field hos hds (x := vs) rfl (wpAny_pure ?_)))))))
  refine wpAny_bind (slicePart_ ps ?_)
  show wpAny _ _ (if ((-1 : Int) == 0) = true then _ else _) _ _ s
  rw [if_neg (by decide)]
  refine wpAny_bind (slicePart_ pl (wpAny_bind (slicePart_ pu (wpAny_bind (wpAny_pure ?_)))))
  show wpAny _ _ (match Builtin.Slice.sliceAdjust none none (-1) (n : Int) with | (lo, hi) => pure (lo, (-1 : Int), Builtin.Slice.slicePlaces lo hi (-1))) _ _ s
  rw [adjust_back n]
  show wpAny _ _ (pure ((n : Int) - 1, (-1 : Int), Builtin.Slice.slicePlaces ((n : Int) - 1) (-1) (-1))) _ _ s
  rw [places_back]
  exact wpAny_pure h
theorem fm_congr {α β : Type} {f g : α → Option β} : ∀ {l : List α}, (∀ m ∈ l, f m = g m) → l.filterMap f = l.filterMap g
  | [], _ => rfl
  | a :: l, h => by
    rw [List.filterMap_cons, List.filterMap_cons, h a List.mem_cons_self, fm_congr fun m hm => h m (List.mem_cons_of_mem _ hm)]
theorem pick_back (xs : Array Value) : ((List.range xs.size).filterMap fun (m : Nat) => xs[(((xs.size : Int) - 1) + (m : Int) * (-1)).toNat]?).toArray = xs.toList.reverse.toArray := by
  congr 1
  have e : ∀ m ∈ List.range xs.size, xs[(((xs.size : Int) - 1) + (m : Int) * (-1)).toNat]? = xs.toList.reverse[m]? := by
    intro m hm
    have hlt : m < xs.size := List.mem_range.mp hm
    have : (((xs.size : Int) - 1) + (m : Int) * (-1)).toNat = xs.size - 1 - m := by omega
    rw [this, List.getElem?_reverse (by simpa using hlt)]
    simp
  have e2 : (List.range xs.size).filterMap (fun (m : Nat) => xs[(((xs.size : Int) - 1) + (m : Int) * (-1)).toNat]?) = (List.range xs.size).filterMap (fun m => xs.toList.reverse[m]?) := fm_congr e
  rw [e2]
  have hl : xs.size = xs.toList.reverse.length := by simp
  rw [hl]
  generalize xs.toList.reverse = l
  clear e e2 hl
  have := pick_run l.toArray 0 l.length
  rw [List.filterMap_map] at this
  simpa [Function.comp_def] using this
theorem getItem_tuple_back {t sl : Addr} {items : Array Value} {vl vu vs : Value} {Q : Value → Shared → Prop} (ht : IsTup s.heap t items) (hs : s.heap.IsSliceOf sl vl vu vs) (pl : IsPart vl none) (pu : IsPart vu none) (ps : IsPart vs (some (-1)))
    (h : Q (.ref s.heap.objs.size) { s with heap := s.heap.push { cls := .type "tuple", data := .seq items.toList.reverse.toArray } })
    (hsz : items.size ≤ sizeLine) : wpAny (model prog w) A (getItem (.ref t) (.ref sl)) Q E s := by
  have htake : sizeOk (.seq items.toList.reverse.toArray) := by
    show items.toList.reverse.toArray.size ≤ sizeLine
    simpa using hsz
  obtain ⟨os, hos, hcs, hds⟩ := id hs
  have hTs : s.TypeIs (.ref sl) "slice" := ⟨os, hos, hcs⟩
  unfold getItem
  try with_reducible refine wpAny_holding ?_
  first | refine wpAny_bind (wpAny_pure ?_) | skip
  refine wpAny_bind (wpAny_sequenceKey ht.typeIs (by decide) ?_)
  refine wpAny_bind (wpAny_callSpecial?_slot (name := Str.ofString "__getitem__") ht.typeIs PyProof.Rows.slot_tuple_getitem
    (wpAny_call_entry PyProof.Rows.slot_tuple_getitem ht.typeIs entry_tuple_getitem ?_ (args_tuple_getitem _ _)))
  show wpAny _ _ (Builtin.Tuple.tupleItemsOf (.ref t) >>= _) _ _ s
  refine wpAny_bind (tupleItemsOf_ ht ?_)
  refine wpAny_bind (wpAny_typeOf hTs ?_)
  rw [if_pos (by decide)]
  refine wpAny_bind (sliceApplied_back hs pl pu ps ?_)
  have hno : ¬ ((((items.size : Int) - 1) == 0 && (-1 : Int) == 1 && items.size == items.size) = true) := by
    intro q
    rw [Bool.and_eq_true, Bool.and_eq_true] at q
    exact absurd q.1.2 (by decide)
  show wpAny _ _ (if (((items.size : Int) - 1) == 0 && (-1 : Int) == 1 && items.size == items.size) = true then _ else _) _ _ s
  rw [if_neg hno, pick_back]
  first
    | exact wpAny_bind (m := Builtin.Tuple.tupleExact _) (wpAny_newObj_type (wpAny_pure ⟨_, rfl, wpAny_pure h⟩) htake)
    | exact wpAny_bind (m := Builtin.Tuple.tupleExact _) (wpAny_newObj_type (wpAny_bind (wpAny_pure (wpAny_pure ⟨_, rfl, wpAny_pure h⟩))) htake)
    | exact wpAny_bind (wpAny_bind (m := Builtin.Tuple.tupleExact _) (wpAny_newObj_type (wpAny_pure (wpAny_pure ⟨_, rfl, wpAny_pure h⟩)) htake))
    | exact wpAny_bind (wpAny_bind (m := Builtin.Tuple.tupleExact _) (wpAny_newObj_type (wpAny_pure ⟨_, rfl, wpAny_pure h⟩) htake))
end
end HT
namespace L2
open PySem PySem.Spec PyProof.Rows
section
variable {X : Cx}
def tRevT (K : PySem.W.Frag) (te : TE) : TE := fun σ H Q => te σ H fun x H1 => ∃ a xs, x = .ref a ∧ SqT K H1 a xs ∧ ∀ p, H1 p = none → Q (.ref p) (upd H1 p (.tup xs.reverse))
theorem pe_revT {e : Expr} {te : TE} {k : Nat} {p1 p2 p3 pos : Pos} (he : PE X e te) : PE X (.Subscript e (.Slice none none (some (.UnaryOp .USub (.Constant (.int 1) k p1) p2)) p3) pos) (tRevT X.K te) := by
  refine ⟨fun pins s σ H Q I h => ?_⟩
  refine Subscript_ (thn (he.run pins s σ H _ I h) fun v s1 ⟨x, H1, I1, r1, q1⟩ => ?_)
  obtain ⟨a, xs, ex, hx, q⟩ := q1
  subst ex
  cases r1
  have hst : PO X (some (.UnaryOp .USub (.Constant (.int 1) k p1) p2)) (tPart (tUn (rU fun i => .int (-i)) (tC (.int 1)))) := po_some (pe_un un_neg pe_int)
  refine wpAny_Slice (thn (po_none.run pins s1 σ H1 (fun o H2 => o = none ∧ H2 = H1) I1 ⟨rfl, rfl⟩) fun vl s2 ⟨l, H2, I2, pl, el, e2⟩ => ?_)
  subst el e2
  refine thn (po_none.run pins s2 σ H2 (fun o H3 => o = none ∧ H3 = H2) I2 ⟨rfl, rfl⟩) fun vu s3 ⟨u, H3, I3, pu, eu, e3⟩ => ?_
  subst eu e3
  refine thn (hst.run pins s3 σ H3 (fun o H4 => o = some (-1) ∧ H4 = H3) I3 ⟨1, rfl, -1, rfl, rfl, rfl⟩) fun vs s4 ⟨o, H4, I4, ps, eo, e4⟩ => ?_
  subst eo e4
  have I5 : Inv X pins σ H4 { s4 with heap := s4.heap.push { cls := .type "slice", data := .fields #[vl, vu, vs] } } := I4.kept (t' := s4.toks) fun b ob q => Heap.get?_push_of_some _ q
  obtain ⟨its, r, ht, hz⟩ := I5.tuple hx
  have hlen := r.length
  show wpAny (model X.prog X.w) X.A (subscriptTail e (.Slice none none (some (.UnaryOp .USub (.Constant (.int 1) k p1) p2)) p3) (.ref a) (.ref s4.heap.objs.size)) (EP X pins σ Q) X.xe { s4 with heap := s4.heap.push { cls := .type "slice", data := .fields #[vl, vu, vs] } }
  refine tail_any (ops := [.ref a, .ref s4.heap.objs.size]) ht.typeIs (PyProof.Rows.slot_tuple_getitem.lookup) ?_ (by with_unfolding_all rfl)
  refine HT.getItem_tuple_back ht (Heap.IsSliceOf.new _ vl vu vs) pl pu ps ?_ (by rw [List.size_toArray]; omega)
  refine ⟨.ref _, _, I5.laid (t' := s4.toks) (o := .tup xs.reverse) (fun b ob q => Heap.get?_push_of_some _ q) (Nat.le_refl _) ?_, rfl, q _ (I5.hok.fresh (Nat.le_refl _))⟩
  exact ⟨by rw [List.length_reverse]; exact hz, _, r.reverse, IsTup.new _ _⟩
end
end L2
set_option maxHeartbeats 2000000
/-! dict(pairs) with tuples as keys, sorted(that dict), sorted(list of data) -/
namespace L2
open PySem PySem.Spec PyProof.Rows
/-- a dict by the addresses of its keys -/
def RawAt (p : Addr) (as : List Addr) (h : Heap) : Prop := (p == sysModules) = false ∧ ∃ o es ep, h.get? p = some o ∧ o.ExactDict ∧ o.data = .dict es ep ∧ es.toList.map (·.key) = as.map Value.ref
def rawD (p : Addr) (as : List Addr) : HO := .ext (RawAt p as)
def addK {β : Type} [DecidableEq β] (acc : List (β × Addr)) (q : β × Addr) : List (β × Addr) := if acc.any (fun x => decide (x.1 = q.1)) then acc else acc ++ [q]
def keysH {β : Type} (xs : List (β × Addr × Value)) : List (β × Addr) := xs.map fun x => (x.1, x.2.1)
theorem any_find {β : Type} (p : β → Bool) : ∀ xs : List β, (xs.find? p).isSome = xs.any p
  | [] => rfl
  | x :: xs => by
    rw [List.find?_cons, List.any_cons]
    cases p x
    · rw [any_find p xs]; rfl
    · rfl
theorem keysH_stored {β : Type} [DecidableEq β] (xs : List (β × Addr × Value)) (k : β) (a : Addr) (v : Value) : keysH (storedH xs k a v) = addK (keysH xs) (k, a) := by
  have e : (keysH xs).any (fun x => decide (x.1 = k)) = (atKey xs k).isSome := by
    unfold keysH atKey
    rw [List.any_map, Option.isSome_map, any_find]
    rfl
  unfold addK
  rw [e]
  unfold storedH
  by_cases h : (atKey xs k).isSome = true
  · rw [if_pos h, if_pos h]
    unfold keysH
    rw [List.map_map]
    refine List.map_congr_left fun x _ => ?_
    show ((putAt k v x).1, (putAt k v x).2.1) = _
    unfold putAt
    split <;> rfl
  · rw [if_neg h, if_neg h]
    unfold keysH
    rw [List.map_append]
    rfl
theorem keysH_all {β : Type} [DecidableEq β] : ∀ (ps xs : List (β × Addr × Value)), keysH (storedAllH xs ps) = (keysH ps).foldl addK (keysH xs)
  | [], xs => rfl
  | p :: ps, xs => by
    show keysH (storedAllH (storedH xs p.1 p.2.1 p.2.2) ps) = _
    rw [keysH_all ps, keysH_stored]
    rfl
mutual
theorem reads_there {h : Heap} : ∀ {v : Value} {d : PyData} {as : List Addr}, Reads h v d as → d.hasDict = false → ∀ x ∈ as, ∃ o, h.get? x = some o
  | _, _, _, .none, _, x, hx => absurd hx (by simp)
  | _, _, _, .bool _, _, x, hx => absurd hx (by simp)
  | _, _, _, .int _ _, _, x, hx => absurd hx (by simp)
  | _, _, _, .str _ _, _, x, hx => absurd hx (by simp)
  | _, _, _, .list h1 _ _ h4, hd, x, hx => by
    rcases List.mem_cons.mp hx with e | hx
    · subst e; exact ⟨_, h1⟩
    · exact readsAll_there h4 (by simpa only [PyData.hasDict] using hd) x hx
  | _, _, _, .tuple h1 _ _ h4, hd, x, hx => readsAll_there h4 (by simpa only [PyData.hasDict] using hd) x hx
  | _, _, _, .dict _ _ _ _ _, hd, _, _ => by simp [PyData.hasDict] at hd
theorem readsAll_there {h : Heap} : ∀ {vs : List Value} {ds : List PyData} {as : List Addr}, ReadsAll h vs ds as → PyData.hasDictAll ds = false → ∀ x ∈ as, ∃ o, h.get? x = some o
  | _, _, _, .nil, _, x, hx => absurd hx (by simp)
  | _, _, _, .cons h1 h2, hd, x, hx => by
    simp only [PyData.hasDictAll, Bool.or_eq_false_iff] at hd
    rcases List.mem_append.mp hx with hx | hx
    · exact reads_there h1 hd.1 x hx
    · exact readsAll_there h2 hd.2 x hx
end
section
variable {X : Cx}
theorem eachIs_of {α β γ : Type} {R : α → γ → Prop} {f : β → γ} : ∀ {as : List α} {bs : List β}, as.length = bs.length → (∀ (i : Nat) (a : α) (b : β), as[i]? = some a → bs[i]? = some b → R a (f b)) → PySem.W.EachIs (fun a b => R a (f b)) as bs
  | [], [], _, _ => .nil
  | a :: as, b :: bs, hl, h => .cons (h 0 a b rfl rfl) (eachIs_of (by simpa using hl) fun i a b h1 h2 => h (i + 1) a b (by simpa using h1) (by simpa using h2))
  | [], _ :: _, hl, _ => by simp at hl
  | _ :: _, [], hl, _ => by simp at hl
/-- dict(xs) of a list of pairs whose keys are tuples of ints and texts; what is told: the keys' addresses, the first of equal ones -/
theorem call_dictPT (hcalm : X.calm = true) (hu : X.A.units + 4 < cLine) : CallR X (.type "dict") (fun xs H Q => ∃ (a : Addr) (ps : List Addr) (ks : List (List Key × Addr)), xs = [.ref a] ∧ SqL X.K H a (ps.map V.ref) ∧
    Paired (fun p k => (∃ y, SqT X.K H p [.ref k.2, y]) ∧ SqT X.K H k.2 (k.1.map kV)) ps ks ∧ ∀ p, H p = none → Q (.ref p) (upd H p (rawD p ((ks.foldl addK []).map (·.2))))) := by
  intro pins s σ H xs us Q I r q
  obtain ⟨a, ps, ks, rfl, hq, hp, q⟩ := q
  obtain ⟨u, rfl, rx⟩ := vals1 r
  cases rx
  obtain ⟨its, rv, pl, hz⟩ := I.list hq
  have ei := refs_at rv
  subst ei
  rw [List.length_map] at hz
  -- the pairs, by their values
  have pairs : ∀ {ps : List Addr} {ks : List (List Key × Addr)}, Paired (fun p k => (∃ y, SqT X.K H p [.ref k.2, y]) ∧ SqT X.K H k.2 (k.1.map kV)) ps ks →
      ∃ prs : List (List Key × Addr × Value), keysH prs = ks ∧ prs.length = ps.length ∧ (∀ (j : Nat) (z : List Key × Addr × Value), prs[j]? = some z → ∃ b, ps[j]? = some b ∧ IsTup s.heap b #[.ref z.2.1, z.2.2]) ∧ ∀ z ∈ prs, (tupleKind (mixKind X.prog X.w)).is s.heap z.1 z.2.1 := by
    intro ps ks h
    induction h with
    | nil => exact ⟨[], rfl, rfl, fun j z e => by simp at e, fun z hz => absurd hz (by simp)⟩
    | @cons p k ps ks h t ih =>
      obtain ⟨prs, e1, e2, e3, e4⟩ := ih
      obtain ⟨⟨y, h1⟩, h2⟩ := h
      obtain ⟨its, rv, ht, _⟩ := I.tuple h1
      obtain ⟨u, v, ei, ru, ry⟩ := vals2 rv
      subst ei
      cases ru
      obtain ⟨its2, rv2, ⟨o, ho, hc, n, hd⟩, _⟩ := I.tuple h2
      refine ⟨(k.1, k.2, v) :: prs, by rw [show keysH ((k.1, k.2, v) :: prs) = (k.1, k.2) :: keysH prs from rfl, e1], by simp [e2], fun j z e => ?_, fun z hz => ?_⟩
      · cases j with
        | zero =>
          have e' : (k.1, k.2, v) = z := Option.some.inj e
          subst e'
          exact ⟨p, rfl, ht⟩
        | succ j =>
          obtain ⟨b, h1, h2⟩ := e3 j z (by simpa using e)
          exact ⟨b, by simpa using h1, h2⟩
      · rcases List.mem_cons.mp hz with e | hz
        · subst e
          exact ⟨o, its2.toArray, n, ho, hc, hd, by simpa using items_are rv2⟩
        · exact e4 z hz
  obtain ⟨prs, e1, e2, e3, e4⟩ := pairs hp
  obtain ⟨o, n, ho, hc, hd, hdat⟩ := pl
  have hh := I.ok.hd hcalm
  have P := PairArg.list (prog := X.prog) (w := X.w) a (ps.map Value.ref).toArray (fun j => ps.getD j 0) (prs.map fun z => (Value.ref z.2.1, z.2.2))
  have hn : (prs.map fun z => (Value.ref z.2.1, z.2.2)).length = prs.length := by simp
  refine call_dict_pairsH (knd := tupleKind (mixKind X.prog X.w)) (ps := prs) P hh (show (tupleKind (mixKind X.prog X.w)).room X.A.in1.in1 from ?_) ⟨⟨o, n, ho, hc, hd, hdat⟩, ?_⟩ ⟨by simp, ?_⟩ ?_ (by rw [hn, e2]; exact hz) ?_
  · exact tupleKind_room_in1 (A := X.A.in1) (by show X.A.units + 1 + 1 < cLine; omega)
  · refine ⟨by simp [e2], fun j k v hj => ?_⟩
    rw [List.getElem?_map] at hj
    cases hz : prs[j]? with
    | none => rw [hz] at hj; cases hj
    | some z =>
      rw [hz] at hj
      cases hj
      obtain ⟨b, h1, o', h2, h3, n', h4⟩ := e3 j z hz
      have hg : ps.getD j 0 = b := by rw [List.getD_eq_getElem?_getD, h1]; rfl
      refine ⟨?_, .inl ?_⟩
      · show _ = some (Value.ref (ps.getD j 0))
        rw [List.getElem?_toArray, List.getElem?_map, h1, hg]; rfl
      · show s.heap.IsTuple (ps.getD j 0) _
        rw [hg]; exact ⟨o', h2, h3, n', h4⟩
  · intro i key v hi
    unfold PairRel at hi
    rw [List.getElem?_map] at hi
    cases hz : prs[i]? with
    | none => rw [hz] at hi; cases hi
    | some z =>
      rw [hz] at hi
      cases hi
      exact ⟨z.1, z.2.1, rfl, rfl⟩
  · intro h' hk z hz
    obtain ⟨o', its, n', h1, h2, h3, h4⟩ := e4 z hz
    exact ⟨o', its, n', hk _ _ (Nat.ne_of_lt (Heap.lt_size h1)) (by simp) h1, h2, h3, h4⟩
  · intro h' tk hd' hk
    obtain ⟨od, es, ep, g1, g2, g3, g4, g5, g6⟩ := hd'
    have hm : (s.heap.objs.size == sysModules) = false := beq_eq_false_iff_ne.mpr (Nat.ne_of_gt I.big)
    have hraw : RawAt s.heap.objs.size ((ks.foldl addK []).map (·.2)) h' := by
      refine ⟨hm, od, es, ep, g1, g2, g3, ?_⟩
      rw [g4, ← e1, show ([] : List (List Key × Addr)) = keysH [] from rfl, ← keysH_all]
      unfold keysH
      rw [List.map_map, List.map_map, List.map_map]
      rfl
    refine ⟨.ref s.heap.objs.size, upd H s.heap.objs.size (rawD s.heap.objs.size ((ks.foldl addK []).map (·.2))), I.laid (t' := tk) (fun b o e => hk b o (by simp) e) (Nat.le_refl _) ?_, rfl, q _ (I.hok.fresh (Nat.le_refl _))⟩
    refine ⟨hraw, ⟨od, g1⟩, fun h1 h2 hr e => ?_⟩
    obtain ⟨hm, o1, es1, ep1, q1, q2, q3, q4⟩ := hr
    exact ⟨hm, o1, es1, ep1, e _ q1, q2, q3, q4⟩
/-- sorted(d) of that dict, the keys told as data -/
theorem call_sortedRaw {β : Type} (enc : β → PyData) (vf : β → V) (hcalm : X.calm = true) (hu : X.A.units + 70 < cLine) : CallR X (.builtin "sorted") (fun vs H Q => ∃ (p : Addr) (as : List Addr) (bs : List β), vs = [.ref p] ∧ H p = some (rawD p as) ∧ bs.map vf = as.map V.ref ∧ (∀ b ∈ bs, Dp X.K H (vf b) (enc b) ∧ (enc b).hasDict = false ∧ (enc b).depth ≤ 60) ∧
    PySem.W.AllAlike (bs.map enc) ∧ PySem.W.Sortable (bs.map enc) ∧ bs.length ≤ 1000000 ∧ ∀ q, H q = none → Q (.ref q) (upd H q (.lst ((bs.mergeSort (PySem.W.dataLe false enc)).map vf)))) := by
  intro pins s σ H xs us Q I r q
  obtain ⟨p, as, bs, rfl, hp, hv, hd, hal, hso, hz, q⟩ := q
  obtain ⟨u, rfl, rx⟩ := vals1 r
  cases rx
  obtain ⟨⟨lo, o, es, ep, g1, g2, g3, g4⟩, _, _⟩ := (show ObjOk X.prog X.w H s.heap p (.ext (RawAt p as)) from I.hok p _ hp)
  have hes : es.size = bs.length := by
    have := congrArg List.length g4
    rw [List.length_map, List.length_map, Array.length_toList] at this
    have h2 := congrArg List.length hv
    rw [List.length_map, List.length_map] at h2
    omega
  have hline : bs.length ≤ sizeLine := Nat.le_trans hz (by rw [sizeLine_eq]; omega)
  refine Calls.call_function_entry PyProof.Rows.kind_sorted PyProof.Rows.plain_sorted PyProof.Rows.entry_sorted (PyProof.Rows.args_sorted1 _) ?_
  unfold Builtin.«sorted»
  refine wpAny_bind (m := checkCount "sorted" 1 1 _) (wpAny_pure ?_)
  refine wpAny_bind (PySem.W.kdu_collect (A := X.A.in1) (kdl_raw lo g2 g3) (I.ok.hd hcalm) g1 (by omega) fun h' tk acc hk hacc => ?_)
  have hal' : acc.toList.length = bs.length := by rw [Array.length_toList, hacc.1, hes]
  have I1 : Inv X pins σ H { s with heap := h', toks := tk } := I.kept hk
  have eV : PySem.W.EachIs (fun v b => RelV (vf b) v) acc.toList bs := eachIs_of (R := fun v x => RelV x v) hal' fun i v b h1 h2 => by
    obtain ⟨en, e1, e2⟩ := hacc.2 i v (by rw [← Array.getElem?_toList]; exact h1)
    have e3 : (es.toList.map (·.key))[i]? = some en.key := by rw [List.getElem?_map, Array.getElem?_toList, e1]; rfl
    rw [g4, List.getElem?_map] at e3
    have e4 : (bs.map vf)[i]? = some (vf b) := by rw [List.getElem?_map, h2]; rfl
    rw [hv, List.getElem?_map] at e4
    cases e5 : as[i]? with
    | none => rw [e5] at e3; cases e3
    | some a =>
      rw [e5] at e3 e4
      have e6 : V.ref a = vf b := Option.some.inj e4
      have e7 : Value.ref a = en.key := Option.some.inj e3
      rw [← e6, e2, ← e7]
      rfl
  have eR : PySem.W.EachIs (fun v b => ∃ ad, Reads h' v (enc b) ad ∧ h'.objs.size ∉ ad) acc.toList bs := (PySem.W.each_mem eV).mono fun v b ⟨rv, hb⟩ => by
    obtain ⟨ad, hr⟩ := Dp.reads I1 (enc b) (vf b) v (hd b hb).1 rv
    refine ⟨ad, hr, fun hm => ?_⟩
    obtain ⟨ob, e⟩ := reads_there hr (hd b hb).2.1 _ hm
    exact absurd (Heap.lt_size e) (Nat.lt_irrefl _)
  refine wpAny_bind (wpAny_newList ?_ (by rw [hal']; exact hline))
  have hoL : (h'.push (seqObj "list" acc.toList.toArray 0)).get? h'.objs.size = some (seqObj "list" acc.toList.toArray 0) := Heap.get?_push_size _ rfl
  show wpAny _ _ _ _ _ { s with heap := h'.push (seqObj "list" acc.toList.toArray 0), toks := tk }
  refine wpAny_bind (wpAny_holding (PySem.W.list_sort_data (s := { s with heap := h'.push (seqObj "list" acc.toList.toArray 0), toks := tk }) (R := fun v b => RelV (vf b) v) (enc := enc) hoL eV
    (eR.mono fun v b ⟨ad, hr, hn⟩ => ⟨ad, PyProof.Rows.Reads.keeps (fun _ _ e => Heap.get?_push_of_some _ e) hr, hn⟩) hal hso hline (fun b hb => ?_) fun out hl hout => ?_))
  · have := (hd b hb).2.2
    show X.A.units + 1 + 1 + _ < cLine
    omega
  · have rvo : ∀ {out : List Value} {cs : List β}, PySem.W.EachIs (fun v b => RelV (vf b) v) out cs → Vals (cs.map vf) out := fun h => by
      induction h with
      | nil => exact .nil
      | cons h t ih => exact .cons h ih
    obtain ⟨e', he'⟩ := PyProof.Rows.sortedHeap_at (vs := acc.toList) (out := out.toArray) hoL
    have hlen : ((bs.mergeSort (PySem.W.dataLe false enc)).map vf).length ≤ sizeLine := by rw [List.length_map, List.length_mergeSort]; exact hline
    refine wpAny_pure ⟨_, rfl, .ref h'.objs.size, upd H h'.objs.size (.lst ((bs.mergeSort (PySem.W.dataLe false enc)).map vf)), I1.laid (t' := tk) (fun b u e => ?_) (Nat.le_refl _)
      (show ObjOk X.prog X.w _ _ _ (.lst _) from ⟨hlen, out, e', rvo hout, he'⟩), rfl, q _ (I1.hok.fresh (Nat.le_refl _))⟩
    have hb : b < h'.objs.size := Heap.lt_size e
    rw [PyProof.Rows.sortedHeap_old (Nat.ne_of_lt hb) (by rw [size_push']; exact Nat.lt_succ_of_lt hb)]
    exact Heap.get?_push_of_some _ e
end
end L2
namespace L2
open PySem PySem.Spec PyProof.Rows
/-- a law over promises where no repr is under way, by the head's facts -/
theorem walkG_ofE {l : PySem.W.OpenLaw} {n k : Nat} {q : Program} {loose : List Str} {XP : (Str → Option Value) → Heap → Prop} {YP : World → Heap → Prop} {d : DefRec} {CX : World → CXT} {x : Str}
    (hn : l.most = some n) (hn2 : n ≤ sizeLine) (hdf : d.params.defaults = []) (hr : Room k callerA)
    (F : ∀ (w : World) (mg : Str → Option Value) (fa : Addr) (h : Heap), YP w h → h.Ns mainGlobals mg → mg d.name = some (.ref fa) →
      ∃ (K : PySem.W.Frag) (fd : FuncData) (sp : Sp), K.In h ∧ (∀ (s : Shared) (u : Value), BindsTo s fd ⟨[u], []⟩ [(x, u)]) ∧
        (∀ (H : Hp) (a : Addr) (ns : List Int), ns.length ≤ n → Only H → SqL K H a (ns.map V.int) → sp [.ref a] H (fun v _ => v = .bl true) fun _ _ _ => False) ∧
        ∀ base : Heap, K.In base → base.Ns mainGlobals mg → FnOkG l.prog w K mg base (CX w) k fa fd [x] sp)
    (hCX : ∀ (w : World) (H : Hp) (s : Shared) (e : Value) (s' : Shared), CX w [] H s (fun _ _ _ => False) e s' → False) :
    PySem.W.WalkO q loose XP YP l.row.toRowW d [] (fun f vs => PySem.call f vs) := by
  refine Att.attach_call hn hdf fun w s₀ s₁ mg mb fa o pm cd doc a vs ns G Y ho hd hcd hmg hobj hints hlen hg => ?_
  obtain ⟨K, fd, sp, KX, hb, hsp, hF⟩ := F w mg fa _ Y G.T.g hmg
  exact lawG_call KX G.T.g G.T.b G.T.builtins G.T.nolimit hg hobj hints (Nat.le_trans hlen hn2) hr hF hb (fun H hO hS => hsp H a ns hlen hO hS) fun H e s' => hCX w H s₁ e s'
end L2
set_option maxHeartbeats 2000000
/-! A functional reading of the layer: plain data, a small store of the changing objects, total functions. -/
namespace G
open PySem PySem.Spec PyProof.Rows L2
/-- plain data; a changing object by its place in the store -/
inductive D where
  | non | bl (b : Bool) | int (i : Int) | str (s : Str) | tup (ds : List D) | lst (ds : List D) | dic (ks : List Key) (ds : List D) | ref (n : Nat)
  deriving Inhabited
inductive O where
  | lst (ds : List D)
  | dic (kvs : List (Key × D))
  deriving Inhabited
abbrev Mem := List O
abbrev Env := List (Option D)
/-- how an evaluation ends -/
inductive Res (α : Type) where
  | ok (a : α) (M : Mem)
  | exc (c : Str) (x : Option (Str × D)) (M : Mem)
  | bad
def Res.bind {α β : Type} (r : Res α) (g : α → Mem → Res β) : Res β := match r with
  | .ok a M => g a M
  | .exc c x M => .exc c x M
  | .bad => .bad
@[simp] theorem Res.bind_ok {α β : Type} {a : α} {M : Mem} {g : α → Mem → Res β} : (Res.ok a M).bind g = g a M := rfl
@[simp] theorem Res.bind_exc {α β : Type} {c : Str} {x : Option (Str × D)} {M : Mem} {g : α → Mem → Res β} : (Res.exc c x M : Res α).bind g = .exc c x M := rfl
@[simp] theorem Res.bind_bad {α β : Type} {g : α → Mem → Res β} : (Res.bad : Res α).bind g = .bad := rfl
/-- what is known: the part of the heap that never changes again, where the store's objects stand -/
structure Kn where
  H : Hp
  ι : List Addr
mutual
def RepV (K : PySem.W.Frag) (k : Kn) : D → V → Prop
  | .non, v => v = .non
  | .bl b, v => v = .bl b
  | .int i, v => v = .int i
  | .str s, v => v = .str s
  | .tup ds, v => ∃ a xs, v = .ref a ∧ SqT K k.H a xs ∧ RepL K k ds xs
  | .lst ds, v => ∃ a xs, v = .ref a ∧ SqL K k.H a xs ∧ RepL K k ds xs
  | .dic ks ds, v => ∃ a xs, v = .ref a ∧ k.H a = some (.dK (ks.zip xs)) ∧ ks.length = xs.length ∧ RepL K k ds xs
  | .ref n, v => ∃ a, v = .ref a ∧ k.ι[n]? = some a
def RepL (K : PySem.W.Frag) (k : Kn) : List D → List V → Prop
  | [], xs => xs = []
  | d :: ds, xs => ∃ x r, xs = x :: r ∧ RepV K k d x ∧ RepL K k ds r
end
def RepKV (K : PySem.W.Frag) (k : Kn) : List (Key × D) → List (Key × V) → Prop := Paired fun p q => p.1 = q.1 ∧ RepV K k p.2 q.2
def RepO (K : PySem.W.Frag) (k : Kn) (H : Hp) (a : Addr) : O → Prop
  | .lst ds => ∃ xs, H a = some (.lst xs) ∧ RepL K k ds xs
  | .dic kvs => ∃ kvs', H a = some (.dK kvs') ∧ RepKV K k kvs kvs'
structure Rel0 (K : PySem.W.Frag) (k : Kn) (H : Hp) (M : Mem) : Prop where
  ex : Same k.H H
  len : k.ι.length = M.length
  nod : k.ι.Nodup
  fr : ∀ a ∈ k.ι, k.H a = none
  obj : ∀ (i : Nat) (a : Addr) (o : O), k.ι[i]? = some a → M[i]? = some o → RepO K k H a o
/-- a step of the heap and of what is known -/
structure Stp (k : Kn) (H : Hp) (k' : Kn) (H' : Hp) : Prop where
  same : Same k.H k'.H
  pre : k.ι <+: k'.ι
  fr : ∀ a o, k'.H a = some o → k.H a = some o ∨ H a = none
  nw : ∀ a ∈ k'.ι, a ∈ k.ι ∨ H a = none
  unt : ∀ a o, H a = some o → a ∉ k.ι → H' a = some o
  al : ∀ a, H' a = none → H a = none
theorem pre_get {α : Type} {l l' : List α} {i : Nat} {x : α} (h : l <+: l') (e : l[i]? = some x) : l'[i]? = some x := by
  obtain ⟨t, rfl⟩ := h
  obtain ⟨hl, e1⟩ := List.getElem?_eq_some_iff.mp e
  rw [List.getElem?_append_left hl]
  exact e
theorem Stp.refl (k : Kn) (H : Hp) : Stp k H k H := ⟨Same.refl _, List.prefix_refl _, fun _ _ h => .inl h, fun _ h => .inl h, fun _ _ h _ => h, fun _ h => h⟩
theorem Stp.trans {k k1 k2 : Kn} {H H1 H2 : Hp} (a : Stp k H k1 H1) (b : Stp k1 H1 k2 H2) : Stp k H k2 H2 where
  same := a.same.trans b.same
  pre := a.pre.trans b.pre
  fr := fun x o h => by
    rcases b.fr x o h with h | h
    · exact a.fr x o h
    · exact .inr (a.al x h)
  nw := fun x h => by
    rcases b.nw x h with h | h
    · exact a.nw x h
    · exact .inr (a.al x h)
  unt := fun x o h hn => by
    have h1 := a.unt x o h hn
    refine b.unt x o h1 fun hm => ?_
    rcases a.nw x hm with z | z
    · exact hn z
    · rw [z] at h; cases h
  al := fun x h => a.al x (b.al x h)
section
variable {K : PySem.W.Frag} {k k' : Kn} {H H' : Hp} {M M' : Mem}
theorem seqT_same {H H' : Hp} {a : Addr} {xs : List V} (e : Same H H') (h : SqT K H a xs) : SqT K H' a xs := by
  rcases h with (h | ⟨o, h⟩) | h
  · exact .inl (.inl (e _ _ h))
  · exact .inl (.inr ⟨o, e _ _ h⟩)
  · exact .inr h
structure KLe (k k' : Kn) : Prop where
  same : Same k.H k'.H
  pre : k.ι <+: k'.ι
theorem Stp.le (s : Stp k H k' H') : KLe k k' := ⟨s.same, s.pre⟩
theorem KLe.refl (k : Kn) : KLe k k := ⟨Same.refl _, List.prefix_refl _⟩
theorem KLe.trans {k k1 k2 : Kn} (a : KLe k k1) (b : KLe k1 k2) : KLe k k2 := ⟨a.same.trans b.same, a.pre.trans b.pre⟩
mutual
theorem RepV.mono (e : KLe k k') : ∀ {d : D} {v : V}, RepV K k d v → RepV K k' d v
  | .non, _, h => by simpa only [RepV] using h
  | .bl _, _, h => by simpa only [RepV] using h
  | .int _, _, h => by simpa only [RepV] using h
  | .str _, _, h => by simpa only [RepV] using h
  | .tup ds, _, h => by
    simp only [RepV] at h ⊢
    obtain ⟨a, xs, e1, h1, h2⟩ := h
    exact ⟨a, xs, e1, seqT_same e.same h1, RepL.mono e h2⟩
  | .lst ds, _, h => by
    simp only [RepV] at h ⊢
    obtain ⟨a, xs, e1, h1, h2⟩ := h
    exact ⟨a, xs, e1, e.same.seq h1, RepL.mono e h2⟩
  | .dic ks ds, _, h => by
    simp only [RepV] at h ⊢
    obtain ⟨a, xs, e1, h1, hl, h2⟩ := h
    exact ⟨a, xs, e1, e.same _ _ h1, hl, RepL.mono e h2⟩
  | .ref n, _, h => by
    simp only [RepV] at h ⊢
    obtain ⟨a, e1, h1⟩ := h
    exact ⟨a, e1, pre_get e.pre h1⟩
theorem RepL.mono (e : KLe k k') : ∀ {ds : List D} {xs : List V}, RepL K k ds xs → RepL K k' ds xs
  | [], _, h => by simpa only [RepL] using h
  | d :: ds, _, h => by
    simp only [RepL] at h ⊢
    obtain ⟨x, r, e1, h1, h2⟩ := h
    exact ⟨x, r, e1, RepV.mono e h1, RepL.mono e h2⟩
end
theorem RepKV.mono (e : KLe k k') {kvs : List (Key × D)} {kvs' : List (Key × V)} (h : RepKV K k kvs kvs') : RepKV K k' kvs kvs' := Paired.mapP h fun _ _ r => ⟨r.1, r.2.mono e⟩
theorem RepL.nil : RepL K k [] [] := by simp only [RepL]
theorem RepL.cons {d : D} {ds : List D} {x : V} {xs : List V} (h : RepV K k d x) (t : RepL K k ds xs) : RepL K k (d :: ds) (x :: xs) := by
  simp only [RepL]; exact ⟨x, xs, rfl, h, t⟩
theorem RepL.length : ∀ {ds : List D} {xs : List V}, RepL K k ds xs → xs.length = ds.length
  | [], _, h => by simp only [RepL] at h; subst h; rfl
  | d :: ds, _, h => by
    simp only [RepL] at h
    obtain ⟨x, r, rfl, _, h2⟩ := h
    rw [List.length_cons, List.length_cons, RepL.length h2]
theorem RepL.get : ∀ {ds : List D} {xs : List V} {i : Nat} {d : D}, RepL K k ds xs → ds[i]? = some d → ∃ x, xs[i]? = some x ∧ RepV K k d x
  | [], _, _, _, _, e => by simp at e
  | d :: ds, _, 0, d', h, e => by
    simp only [RepL] at h
    obtain ⟨x, r, rfl, h1, _⟩ := h
    have e' : d = d' := Option.some.inj e
    subst e'
    exact ⟨x, rfl, h1⟩
  | d :: ds, _, i + 1, d', h, e => by
    simp only [RepL] at h
    obtain ⟨x, r, rfl, _, h2⟩ := h
    exact RepL.get (i := i) h2 e
theorem RepL.append : ∀ {ds es : List D} {xs ys : List V}, RepL K k ds xs → RepL K k es ys → RepL K k (ds ++ es) (xs ++ ys)
  | [], _, _, _, h, g => by simp only [RepL] at h; subst h; exact g
  | d :: ds, _, _, _, h, g => by
    simp only [RepL] at h
    obtain ⟨x, r, rfl, h1, h2⟩ := h
    exact RepL.cons h1 (RepL.append h2 g)
theorem RepL.take : ∀ {ds : List D} {xs : List V} (n : Nat), RepL K k ds xs → RepL K k (ds.take n) (xs.take n)
  | _, _, 0, _ => by simp only [List.take_zero]; exact RepL.nil
  | [], _, n + 1, h => by simp only [RepL] at h; subst h; simp only [List.take_nil]; exact RepL.nil
  | d :: ds, _, n + 1, h => by
    simp only [RepL] at h
    obtain ⟨x, r, rfl, h1, h2⟩ := h
    exact RepL.cons h1 (RepL.take n h2)
theorem RepL.drop : ∀ {ds : List D} {xs : List V} (n : Nat), RepL K k ds xs → RepL K k (ds.drop n) (xs.drop n)
  | _, _, 0, h => h
  | [], _, n + 1, h => by simp only [RepL] at h; subst h; simp only [List.drop_nil]; exact RepL.nil
  | d :: ds, _, n + 1, h => by
    simp only [RepL] at h
    obtain ⟨x, r, rfl, h1, h2⟩ := h
    exact RepL.drop n h2
theorem RepL.set : ∀ {ds : List D} {xs : List V} (i : Nat) {d : D} {x : V}, RepL K k ds xs → RepV K k d x → RepL K k (ds.set i d) (xs.set i x)
  | [], _, _, _, _, h, _ => by simp only [RepL] at h; subst h; exact RepL.nil
  | _ :: _, _, 0, _, _, h, g => by
    simp only [RepL] at h
    obtain ⟨x, r, rfl, h1, h2⟩ := h
    exact RepL.cons g h2
  | _ :: _, _, i + 1, _, _, h, g => by
    simp only [RepL] at h
    obtain ⟨x, r, rfl, h1, h2⟩ := h
    exact RepL.cons h1 (RepL.set i h2 g)
theorem RepL.of_get : ∀ {ds : List D} {xs : List V}, xs.length = ds.length → (∀ (i : Nat) d x, ds[i]? = some d → xs[i]? = some x → RepV K k d x) → RepL K k ds xs
  | [], xs, hl, _ => by
    have : xs = [] := List.length_eq_zero_iff.mp hl
    subst this
    exact RepL.nil
  | d :: ds, [], hl, _ => by simp at hl
  | d :: ds, x :: xs, hl, h => RepL.cons (h 0 d x rfl rfl) (RepL.of_get (by simpa using hl) fun i d' x' e1 e2 => h (i + 1) d' x' (by simpa using e1) (by simpa using e2))
end
/-! ### environments -/
structure RelE (K : PySem.W.Frag) (k : Kn) (σ : L2.St) (ρ : Env) : Prop where
  len : σ.length = ρ.length
  at_ : ∀ (i : Nat) d, ρ[i]? = some (some d) → ∃ v, σ[i]? = some (some v) ∧ RepV K k d v
section
variable {K : PySem.W.Frag} {k k' : Kn} {σ : L2.St} {ρ : Env}
theorem RelE.mono (e : KLe k k') (h : RelE K k σ ρ) : RelE K k' σ ρ :=
  ⟨h.len, fun i d hd => let ⟨v, h1, h2⟩ := h.at_ i d hd; ⟨v, h1, h2.mono e⟩⟩
theorem RelE.set {i : Nat} {d : D} {v : V} (h : RelE K k σ ρ) (r : RepV K k d v) : RelE K k (σ.set i (some v)) (ρ.set i (some d)) := by
  refine ⟨by simpa using h.len, fun j d' e => ?_⟩
  by_cases hj : i = j
  · subst hj
    by_cases hi : i < ρ.length
    · rw [List.getElem?_set_self hi] at e
      cases e
      exact ⟨v, by rw [List.getElem?_set_self (by rw [h.len]; exact hi)], r⟩
    · rw [List.getElem?_eq_none (by simpa using hi)] at e
      cases e
  · rw [List.getElem?_set_ne hj] at e
    rw [List.getElem?_set_ne hj]
    exact h.at_ j d' e
def wipeD (ρ : Env) : List Nat → Env
  | [] => ρ
  | v :: vs => (wipeD ρ vs).set v none
theorem RelE.unset {i : Nat} (h : RelE K k σ ρ) : RelE K k (σ.set i none) (ρ.set i none) := by
  refine ⟨by simpa using h.len, fun j d' e => ?_⟩
  by_cases hj : i = j
  · subst hj
    by_cases hi : i < ρ.length
    · rw [List.getElem?_set_self hi] at e
      cases e
    · rw [List.getElem?_eq_none (by simpa using hi)] at e
      cases e
  · rw [List.getElem?_set_ne hj] at e
    rw [List.getElem?_set_ne hj]
    exact h.at_ j d' e
theorem RelE.wipe (h : RelE K k σ ρ) : ∀ vs : List Nat, RelE K k (wipe σ vs) (wipeD ρ vs)
  | [] => h
  | v :: vs => (h.wipe vs).unset
end
end G
set_option maxHeartbeats 2000000
namespace G
open PySem PySem.Spec PyProof.Rows L2
/-! ### the weakest readings -/
def WE (X : Cx) (e : Expr) : TE := fun σ H Q => ∃ t, PE X e t ∧ t σ H Q
def WT (X : Cx) (e : Expr) : TT := fun σ H Q => ∃ t, PT X e t ∧ t σ H Q
def WW (X : Cx) (e : Expr) : TT := fun σ H Q => ∃ t, PW X e t ∧ t σ H Q
def WA (X : Cx) (es : List Expr) : TA := fun σ H Q => ∃ t, PA X es t ∧ t σ H Q
def WS (X : Cx) (st : Stmt) : TS := fun D σ H => ∃ t, PS X st t ∧ t D σ H
def WSs (X : Cx) (st : List Stmt) : TS := fun D σ H => ∃ t, PSs X st t ∧ t D σ H
def WI (X : Cx) (tg iter : Expr) : TI := fun σ H R => ∃ t, PI X tg iter t ∧ t σ H R
def WG (X : Cx) (tg : Expr) : TG := fun v σ H Q => ∃ t, PG X tg t ∧ t v σ H Q
def WTs (X : Cx) (es : List Expr) : TT := fun σ H Q => ∃ t, PTs X es t ∧ t σ H Q
def WOp (X : Cx) (f : Value → Value → Sem Value) : R2 := fun x y H Q => ∃ r, OpR X f r ∧ r x y H Q
def WCall (X : Cx) (f : Value) : List V → Hp → VK → Prop := fun xs H Q => ∃ r, CallR X f r ∧ r xs H Q
section
variable {X : Cx}
theorem pe_we {e : Expr} : PE X e (WE X e) := ⟨fun pins s σ H Q I ⟨_, h, q⟩ => h.run pins s σ H Q I q⟩
theorem pt_wt {e : Expr} : PT X e (WT X e) := ⟨fun pins s σ H Q I ⟨_, h, q⟩ => h.run pins s σ H Q I q⟩
theorem pw_ww {e : Expr} : PW X e (WW X e) := ⟨fun wh pins s σ H Q I ⟨_, h, q⟩ => h.run wh pins s σ H Q I q⟩
theorem pa_wa {es : List Expr} : PA X es (WA X es) := ⟨fun pos pins s σ H Q I ⟨_, h, q⟩ => h.run pos pins s σ H Q I q⟩
theorem ps_ws {st : Stmt} : PS X st (WS X st) := ⟨fun pins s σ H D I ⟨_, h, q⟩ => h.run pins s σ H D I q⟩
theorem pss_wss {st : List Stmt} : PSs X st (WSs X st) := ⟨fun pins s σ H D I ⟨_, h, q⟩ => h.run pins s σ H D I q⟩
theorem pi_wi {tg iter : Expr} : PI X tg iter (WI X tg iter) := ⟨fun pins s σ H R I ⟨_, h, q⟩ => h.run pins s σ H R I q⟩
theorem pg_wg {tg : Expr} : PG X tg (WG X tg) := ⟨fun pins s σ H v u Q I r ⟨_, h, q⟩ => h.run pins s σ H v u Q I r q⟩
theorem pts_wts {es : List Expr} : PTs X es (WTs X es) := ⟨fun pins s σ H Q I ⟨_, h, q⟩ => h.run pins s σ H Q I q⟩
theorem op_wop {f : Value → Value → Sem Value} : OpR X f (WOp X f) := fun pins s σ H x y v u Q I rx ry ⟨_, h, q⟩ => h pins s σ H x y v u Q I rx ry q
theorem call_wcall {f : Value} : CallR X f (WCall X f) := fun pins s σ H vs us Q I r ⟨_, h, q⟩ => h pins s σ H vs us Q I r q
end
/-! ### what is to hold behind an evaluation -/
/-- how an exception lies in the heap -/
def ExcRep (K : PySem.W.Frag) (mg : Str → Option Value) (k : Kn) (c : Str) (x : Option (Str × D)) (H : Hp) (C : Value) (od : Option Addr) : Prop :=
  mg c = some C ∧ match x with
    | none => od = none
    | some (f, d) => ∃ a v, od = some a ∧ H a = some (.xd [(f, v)]) ∧ RepV K k d v
section
variable {α β α' β' : Type} (K : PySem.W.Frag) (mg : Str → Option Value) (E : XK)
def Post (rep : Kn → α → β → Prop) (k : Kn) (H : Hp) (r : Res α) (Q : β → Hp → Prop) : Prop := match r with
  | .ok d M' => ∀ k' v H', Stp k H k' H' → Rel0 K k' H' M' → rep k' d v → Q v H'
  | .exc c x M' => ∀ k' H' C od, Stp k H k' H' → Rel0 K k' H' M' → ExcRep K mg k' c x H' C od → E C od H'
  | .bad => False
end
abbrev PostE (X : Cx) (E : XK) := Post X.K X.mg E (RepV X.K)
abbrev RB : Kn → Bool → Bool → Prop := fun _ a b => a = b
abbrev PostT (X : Cx) (E : XK) := Post X.K X.mg E RB
abbrev PostA (X : Cx) (E : XK) := Post X.K X.mg E (RepL X.K)
section
variable {α β α' β' : Type} {K : PySem.W.Frag} {mg : Str → Option Value} {E : XK} {rep : Kn → α → β → Prop} {rep' : Kn → α' → β' → Prop} {k k' : Kn} {H H' : Hp} {M : Mem} {r : Res α} {Q : β → Hp → Prop} {Q' : β' → Hp → Prop}
theorem Post.step (s : Stp k H k' H') (h : Post K mg E rep k H r Q) : Post K mg E rep k' H' r Q := by
  cases r with
  | ok d M' => exact fun k2 v H2 s2 r2 q2 => h k2 v H2 (s.trans s2) r2 q2
  | exc c x M' => exact fun k2 H2 C od s2 r2 q2 => h k2 H2 C od (s.trans s2) r2 q2
  | bad => exact h
theorem Post.bind {g : α → Mem → Res α'} (h : Post K mg E rep' k H (r.bind g) Q')
    (st : ∀ a M1 k1 x H1, Stp k H k1 H1 → Rel0 K k1 H1 M1 → rep k1 a x → Post K mg E rep' k1 H1 (g a M1) Q' → Q x H1) : Post K mg E rep k H r Q := by
  cases r with
  | ok a M1 => exact fun k1 x H1 s1 r1 q1 => st a M1 k1 x H1 s1 r1 q1 (Post.step s1 h)
  | exc c x M1 => exact h
  | bad => exact h
theorem Post.ret {d : α} {v : β} (h : Post K mg E rep k H (.ok d M) Q) (hr : Rel0 K k H M) (q : rep k d v) : Q v H := h k v H (Stp.refl k H) hr q
theorem Post.ret' {d : α} {v : β} (h : Post K mg E rep k H (.ok d M) Q) (s : Stp k H k' H') (hr : Rel0 K k' H' M) (q : rep k' d v) : Q v H' := h k' v H' s hr q
end
abbrev SemE := Env → Mem → Res D
abbrev SemT := Env → Mem → Res Bool
abbrev SemA := Env → Mem → Res (List D)
structure XE (X : Cx) (E : XK) (e : Expr) (f : SemE) : Prop where
  run : ∀ k σ H ρ M, RelE X.K k σ ρ → Rel0 X.K k H M → ∀ Q : VK, PostE X E k H (f ρ M) Q → WE X e σ H Q
structure XT (X : Cx) (E : XK) (e : Expr) (f : SemT) : Prop where
  run : ∀ k σ H ρ M, RelE X.K k σ ρ → Rel0 X.K k H M → ∀ Q : Bool → Hp → Prop, PostT X E k H (f ρ M) Q → WT X e σ H Q
structure XW (X : Cx) (E : XK) (e : Expr) (f : SemT) : Prop where
  run : ∀ k σ H ρ M, RelE X.K k σ ρ → Rel0 X.K k H M → ∀ Q : Bool → Hp → Prop, PostT X E k H (f ρ M) Q → WW X e σ H Q
structure XA (X : Cx) (E : XK) (es : List Expr) (f : SemA) : Prop where
  run : ∀ k σ H ρ M, RelE X.K k σ ρ → Rel0 X.K k H M → ∀ Q : List V → Hp → Prop, PostA X E k H (f ρ M) Q → WA X es σ H Q
/-! ### names, constants -/
def cVar (i : Nat) : SemE := fun ρ M => match ρ[i]? with
  | some (some d) => .ok d M
  | _ => .bad
def cC (d : D) : SemE := fun _ M => .ok d M
section
variable {X : Cx} {E : XK}
theorem xe_var {i : Nat} {e : Expr} (h : PE X e (tVar i)) : XE X E e (cVar i) := by
  refine ⟨fun k σ H ρ M re r0 Q p => ?_⟩
  unfold cVar at p
  split at p
  · rename_i d hd
    obtain ⟨v, hv, rv⟩ := re.at_ i d hd
    exact ⟨_, h, v, hv, p.ret r0 rv⟩
  · exact p.elim
/-- a constant, whatever the heap is -/
theorem xe_c {d : D} {v : V} {e : Expr} (h : PE X e (tC v)) (hr : ∀ k, RepV X.K k d v) : XE X E e (cC d) := by
  refine ⟨fun k σ H ρ M re r0 Q p => ?_⟩
  exact ⟨_, h, p.ret r0 (hr k)⟩
theorem xe_int {i j pos} : XE X E (.Constant (.int i) j pos) (cC (.int i)) := xe_c pe_int fun k => by simp only [RepV]
theorem xe_bl {b j pos} : XE X E (.Constant (.bool b) j pos) (cC (.bl b)) := xe_c pe_bl fun k => by simp only [RepV]
theorem xe_non {j pos} : XE X E (.Constant .none j pos) (cC .non) := xe_c pe_non fun k => by simp only [RepV]
theorem xe_str {x j pos} : XE X E (.Constant (.str x) j pos) (cC (.str x)) := xe_c pe_str fun k => by simp only [RepV]
end
/-! ### operators on values -/
/-- f on values does what g does on data -/
def OpS (X : Cx) (E : XK) (f : Value → Value → Sem Value) (g : D → D → Mem → Res D) : Prop :=
  ∀ k H M a b x y, Rel0 X.K k H M → RepV X.K k a x → RepV X.K k b y → ∀ Q : VK, PostE X E k H (g a b M) Q → WOp X f x y H Q
def c2 (g : D → D → Mem → Res D) (fa fb : SemE) : SemE := fun ρ M => (fa ρ M).bind fun a M1 => (fb ρ M1).bind fun b M2 => g a b M2
section
variable {X : Cx} {E : XK} {a b : Expr} {fa fb : SemE} {op : Operator} {cop : CmpOp} {g : D → D → Mem → Res D} {pos : Pos}
theorem two (ha : XE X E a fa) (hb : XE X E b fb) {f : Value → Value → Sem Value} (hg : OpS X E f g) {k : Kn} {σ : L2.St} {H : Hp} {ρ : Env} {M : Mem} (re : RelE X.K k σ ρ) (r0 : Rel0 X.K k H M) {Q : VK} (p : PostE X E k H (c2 g fa fb ρ M) Q) :
    tOp (WOp X f) (WE X a) (WE X b) σ H Q := by
  refine ha.run k σ H ρ M re r0 _ (Post.bind p fun x M1 k1 v H1 s1 r1 q1 p1 => ?_)
  refine hb.run k1 σ H1 ρ M1 (re.mono s1.le) r1 _ (Post.bind p1 fun y M2 k2 u H2 s2 r2 q2 p2 => ?_)
  exact hg k2 H2 M2 x y v u r2 (q1.mono s2.le) q2 _ p2
theorem xe_op (hg : OpS X E (binaryOp op) g) (ha : XE X E a fa) (hb : XE X E b fb) : XE X E (.BinOp a op b pos) (c2 g fa fb) :=
  ⟨fun k σ H ρ M re r0 Q p => ⟨_, pe_op op_wop pe_we pe_we, two ha hb hg re r0 p⟩⟩
theorem xe_cmp (hg : OpS X E (compareOp cop) g) (ha : XE X E a fa) (hb : XE X E b fb) (hm : behindInMarks cop b = false := by first | exact nobehind _ (by decide) (by decide) | rfl) : XE X E (.Compare a [cop] [b] pos) (c2 g fa fb) :=
  ⟨fun k σ H ρ M re r0 Q p => ⟨_, pe_cmpR op_wop pe_we pe_we hm, two ha hb hg re r0 p⟩⟩
end
def asBl : D → Mem → Res Bool
  | .bl b, M => .ok b M
  | _, _ => .bad
section
variable {X : Cx} {E : XK} {a b c : Expr} {fa fb fc : SemE} {cop cop' : CmpOp} {g g' : D → D → Mem → Res D} {pos : Pos}
def cT (f : SemE) : SemT := fun ρ M => (f ρ M).bind asBl
theorem asBl_post {k : Kn} {H : Hp} {M : Mem} {d : D} {x : V} {Q : Bool → Hp → Prop} (r0 : Rel0 X.K k H M) (hr : RepV X.K k d x) (p : PostT X E k H (asBl d M) Q) : ∃ c, x = .bl c ∧ Q c H := by
  cases d with
  | bl b =>
    simp only [RepV] at hr
    exact ⟨b, hr, p.ret r0 rfl⟩
  | _ => exact p.elim
/-- an expression whose value is a bool, as a test -/
theorem xt_val {e : Expr} {f : SemE} (h : XE X E e f) (he : ∀ whole, isTrue e X.env whole = (do let v ← whole; standAt e.pos; holding [v] (truthy v)) := by intro _; rfl) : XT X E e (cT f) := by
  refine ⟨fun k σ H ρ M re r0 Q p => ⟨_, pt_val (pe_we) he, ?_⟩⟩
  exact h.run k σ H ρ M re r0 _ (Post.bind p fun x M1 k1 v H1 s1 r1 q1 p1 => asBl_post r1 q1 p1)
theorem xt_cmp (hg : OpS X E (compareOp cop) g) (ha : XE X E a fa) (hb : XE X E b fb) (hm : behindInMarks cop b = false := by first | exact nobehind _ (by decide) (by decide) | rfl) : XT X E (.Compare a [cop] [b] pos) (cT (c2 g fa fb)) := by
  refine ⟨fun k σ H ρ M re r0 Q p => ⟨_, pt_cmpR op_wop pe_we pe_we hm, ?_⟩⟩
  unfold cT at p
  refine two (g := g) (E := E) (M := M) (ρ := ρ) (k := k) ha hb hg re r0 ?_
  exact Post.bind p fun x M1 k1 v H1 s1 r1 q1 p1 => asBl_post r1 q1 p1
/-- a chain a < b < c -/
def cChain (g g' : D → D → Mem → Res D) (fa fb fc : SemE) : SemE := fun ρ M => (fa ρ M).bind fun a M1 => (fb ρ M1).bind fun b M2 => (g a b M2).bind fun z M3 => (asBl z M3).bind fun t M4 =>
  if t then (fc ρ M4).bind fun c M5 => g' b c M5 else .ok (.bl false) M4
theorem chain_run (hg : OpS X E (compareOp cop) g) (hg' : OpS X E (compareOp cop') g') (ha : XE X E a fa) (hb : XE X E b fb) (hc : XE X E c fc) {k : Kn} {σ : L2.St} {H : Hp} {ρ : Env} {M : Mem} (re : RelE X.K k σ ρ) (r0 : Rel0 X.K k H M) {Q : VK}
    (p : PostE X E k H (cChain g g' fa fb fc ρ M) Q) : tChain (WOp X (compareOp cop)) (WOp X (compareOp cop')) (WE X a) (WE X b) (WE X c) σ H Q := by
  refine ha.run k σ H ρ M re r0 _ (Post.bind p fun x M1 k1 v H1 s1 r1 q1 p1 => ?_)
  refine hb.run k1 σ H1 ρ M1 (re.mono s1.le) r1 _ (Post.bind p1 fun y M2 k2 u H2 s2 r2 q2 p2 => ?_)
  refine hg k2 H2 M2 x y v u r2 (q1.mono s2.le) q2 _ (Post.bind p2 fun z M3 k3 zv H3 s3 r3 q3 p3 => ?_)
  cases z with
  | bl t =>
    simp only [RepV] at q3
    refine ⟨t, q3, ?_⟩
    simp only [asBl, Res.bind_ok] at p3
    cases t with
    | true =>
      simp only [if_true] at p3 ⊢
      refine hc.run k3 σ H3 ρ M3 (re.mono ((s1.trans s2).trans s3).le) r3 _ (Post.bind p3 fun w M4 k4 wv H4 s4 r4 q4 p4 => ?_)
      exact hg' k4 H4 M4 y w u wv r4 (q2.mono (s3.trans s4).le) q4 _ p4
    | false =>
      simp only [Bool.false_eq_true, if_false] at p3 ⊢
      exact p3.ret r3 (by simp only [RepV])
  | _ => exact p3.elim
theorem xe_chain (hg : OpS X E (compareOp cop) g) (hg' : OpS X E (compareOp cop') g') (ha : XE X E a fa) (hb : XE X E b fb) (hc : XE X E c fc)
    (hm : lastMarks [cop, cop'] [b, c] = false := by with_unfolding_all rfl) : XE X E (.Compare a [cop, cop'] [b, c] pos) (cChain g g' fa fb fc) :=
  ⟨fun k σ H ρ M re r0 Q p => ⟨_, pe_chain op_wop op_wop pe_we pe_we pe_we hm, chain_run hg hg' ha hb hc re r0 p⟩⟩
theorem xt_chain (hg : OpS X E (compareOp cop) g) (hg' : OpS X E (compareOp cop') g') (ha : XE X E a fa) (hb : XE X E b fb) (hc : XE X E c fc)
    (hm : lastMarks [cop, cop'] [b, c] = false := by with_unfolding_all rfl) : XT X E (.Compare a [cop, cop'] [b, c] pos) (cT (cChain g g' fa fb fc)) := by
  refine ⟨fun k σ H ρ M re r0 Q p => ⟨_, pt_chain op_wop op_wop pe_we pe_we pe_we hm, ?_⟩⟩
  refine chain_run (M := M) (ρ := ρ) (k := k) hg hg' ha hb hc re r0 ?_
  exact Post.bind p fun x M1 k1 v H1 s1 r1 q1 p1 => asBl_post r1 q1 p1
end
/-! ### and, or, not, if -/
def cAnd (t u : SemT) : SemT := fun ρ M => (t ρ M).bind fun b M1 => if b then u ρ M1 else .ok false M1
def cOr (t u : SemT) : SemT := fun ρ M => (t ρ M).bind fun b M1 => if b then .ok true M1 else u ρ M1
def cNot (t : SemT) : SemT := fun ρ M => (t ρ M).bind fun b M1 => .ok (!b) M1
def cAndV (fa fb : SemE) : SemE := fun ρ M => (fa ρ M).bind fun x M1 => (asBl x M1).bind fun b M2 => if b then fb ρ M2 else .ok (.bl false) M2
def cOrV (fa fb : SemE) : SemE := fun ρ M => (fa ρ M).bind fun x M1 => (asBl x M1).bind fun b M2 => if b then .ok (.bl true) M2 else fb ρ M2
def cNotV (fa : SemE) : SemE := fun ρ M => (fa ρ M).bind fun x M1 => (asBl x M1).bind fun b M2 => .ok (.bl (!b)) M2
def cIf (t : SemT) (fa fb : SemE) : SemE := fun ρ M => (t ρ M).bind fun b M1 => if b then fa ρ M1 else fb ρ M1
section
variable {X : Cx} {E : XK} {a b c : Expr} {rest : List Expr} {fa fb : SemE} {t u : SemT} {pos : Pos} {op : BoolOp}
theorem xw_and1 (h : XT X E a t) : XW X E (.BoolOp .And [a] pos) t :=
  ⟨fun k σ H ρ M re r0 Q p => ⟨_, pw_and1 pt_wt, h.run k σ H ρ M re r0 Q p⟩⟩
theorem xw_or1 (h : XT X E a t) : XW X E (.BoolOp .Or [a] pos) t :=
  ⟨fun k σ H ρ M re r0 Q p => ⟨_, pw_or1 pt_wt, h.run k σ H ρ M re r0 Q p⟩⟩
theorem xw_and (h : XT X E a t) (g : XW X E (.BoolOp .And (b :: rest) pos) u) : XW X E (.BoolOp .And (a :: b :: rest) pos) (cAnd t u) := by
  refine ⟨fun k σ H ρ M re r0 Q p => ⟨_, pw_and pt_wt pw_ww, ?_⟩⟩
  refine h.run k σ H ρ M re r0 _ (Post.bind p fun x M1 k1 v H1 s1 r1 q1 p1 => ?_)
  cases q1
  cases x with
  | true => exact g.run k1 σ H1 ρ M1 (re.mono s1.le) r1 Q p1
  | false => exact p1.ret r1 rfl
theorem xw_or (h : XT X E a t) (g : XW X E (.BoolOp .Or (b :: rest) pos) u) : XW X E (.BoolOp .Or (a :: b :: rest) pos) (cOr t u) := by
  refine ⟨fun k σ H ρ M re r0 Q p => ⟨_, pw_or pt_wt pw_ww, ?_⟩⟩
  refine h.run k σ H ρ M re r0 _ (Post.bind p fun x M1 k1 v H1 s1 r1 q1 p1 => ?_)
  cases q1
  cases x with
  | false => exact g.run k1 σ H1 ρ M1 (re.mono s1.le) r1 Q p1
  | true => exact p1.ret r1 rfl
theorem XW.xt {e : Expr} (h : XW X E e t) : XT X E e t := ⟨fun k σ H ρ M re r0 Q p => let ⟨t, h1, h2⟩ := h.run k σ H ρ M re r0 Q p; ⟨t, h1.pt, h2⟩⟩
theorem xt_not (h : XT X E a t) : XT X E (.UnaryOp .Not a pos) (cNot t) := by
  refine ⟨fun k σ H ρ M re r0 Q p => ⟨_, pt_not pt_wt, ?_⟩⟩
  refine h.run k σ H ρ M re r0 _ (Post.bind p fun x M1 k1 v H1 s1 r1 q1 p1 => ?_)
  cases q1
  exact p1.ret r1 rfl
theorem xe_one (h : XE X E a fa) : XE X E (.BoolOp op [a] pos) fa := ⟨fun k σ H ρ M re r0 Q p => ⟨_, pe_one pe_we, h.run k σ H ρ M re r0 Q p⟩⟩
theorem asBlE_post {k : Kn} {H : Hp} {M : Mem} {d : D} {x : V} {Q : VK} {g : Bool → Mem → Res D} (r0 : Rel0 X.K k H M) (hr : RepV X.K k d x) (p : PostE X E k H ((asBl d M).bind g) Q) : ∃ c, x = .bl c ∧ PostE X E k H (g c M) Q := by
  cases d with
  | bl b =>
    simp only [RepV] at hr
    exact ⟨b, hr, p⟩
  | _ => exact p.elim
theorem xe_and (h : XE X E a fa) (g : XE X E (.BoolOp .And (b :: rest) pos) fb) : XE X E (.BoolOp .And (a :: b :: rest) pos) (cAndV fa fb) := by
  refine ⟨fun k σ H ρ M re r0 Q p => ⟨_, pe_and pe_we pe_we, ?_⟩⟩
  refine h.run k σ H ρ M re r0 _ (Post.bind p fun x M1 k1 v H1 s1 r1 q1 p1 => ?_)
  obtain ⟨c, rfl, p2⟩ := asBlE_post r1 q1 p1
  refine ⟨c, rfl, ?_⟩
  cases c with
  | true => exact g.run k1 σ H1 ρ M1 (re.mono s1.le) r1 Q p2
  | false => exact p2.ret r1 (by simp only [RepV])
theorem xe_or (h : XE X E a fa) (g : XE X E (.BoolOp .Or (b :: rest) pos) fb) : XE X E (.BoolOp .Or (a :: b :: rest) pos) (cOrV fa fb) := by
  refine ⟨fun k σ H ρ M re r0 Q p => ⟨_, pe_or pe_we pe_we, ?_⟩⟩
  refine h.run k σ H ρ M re r0 _ (Post.bind p fun x M1 k1 v H1 s1 r1 q1 p1 => ?_)
  obtain ⟨c, rfl, p2⟩ := asBlE_post r1 q1 p1
  refine ⟨c, rfl, ?_⟩
  cases c with
  | false => exact g.run k1 σ H1 ρ M1 (re.mono s1.le) r1 Q p2
  | true => exact p2.ret r1 (by simp only [RepV])
theorem xe_not (h : XE X E a fa) : XE X E (.UnaryOp .Not a pos) (cNotV fa) := by
  refine ⟨fun k σ H ρ M re r0 Q p => ⟨_, pe_not pe_we, ?_⟩⟩
  refine h.run k σ H ρ M re r0 _ (Post.bind p fun x M1 k1 v H1 s1 r1 q1 p1 => ?_)
  obtain ⟨c, rfl, p2⟩ := asBlE_post r1 q1 p1
  exact ⟨c, rfl, p2.ret r1 (by simp only [RepV])⟩
theorem xe_if (hc : XT X E c t) (ha : XE X E a fa) (hb : XE X E b fb) : XE X E (.IfExp c a b pos) (cIf t fa fb) := by
  refine ⟨fun k σ H ρ M re r0 Q p => ⟨_, pe_ifExp pt_wt pe_we pe_we, ?_⟩⟩
  refine hc.run k σ H ρ M re r0 _ (Post.bind p fun x M1 k1 v H1 s1 r1 q1 p1 => ?_)
  cases q1
  cases x with
  | true => exact ha.run k1 σ H1 ρ M1 (re.mono s1.le) r1 Q p1
  | false => exact hb.run k1 σ H1 ρ M1 (re.mono s1.le) r1 Q p1
end
/-! ### arguments -/
def cNil : SemA := fun _ M => .ok [] M
def cCons (f : SemE) (g : SemA) : SemA := fun ρ M => (f ρ M).bind fun x M1 => (g ρ M1).bind fun xs M2 => .ok (x :: xs) M2
section
variable {X : Cx} {E : XK} {e : Expr} {es : List Expr} {f : SemE} {g : SemA}
theorem xa_nil : XA X E [] cNil := ⟨fun k σ H ρ M re r0 Q p => ⟨_, pa_nil, p.ret r0 RepL.nil⟩⟩
theorem xa_cons (h : XE X E e f) (hr : XA X E es g) (hs : starEach (e :: es) X.env = (false, eval e X.env) :: starEach es X.env := by rfl) : XA X E (e :: es) (cCons f g) := by
  refine ⟨fun k σ H ρ M re r0 Q p => ⟨_, pa_cons pe_we pa_wa hs, ?_⟩⟩
  refine h.run k σ H ρ M re r0 _ (Post.bind p fun x M1 k1 v H1 s1 r1 q1 p1 => ?_)
  refine hr.run k1 σ H1 ρ M1 (re.mono s1.le) r1 _ (Post.bind p1 fun xs M2 k2 vs H2 s2 r2 q2 p2 => ?_)
  exact p2.ret r2 (RepL.cons (q1.mono s2.le) q2)
end
end G
set_option maxHeartbeats 2000000
namespace G
open PySem PySem.Spec PyProof.Rows L2
/-! ### heaps: a new object -/
section
variable {K : PySem.W.Frag} {k k' k2 : Kn} {H H' H2 : Hp} {M M' : Mem} {p : Addr} {o : HO}
theorem Rel0.known (r : Rel0 K k H M) {a : Addr} (ha : a ∈ k.ι) (hM : True) : ∃ u, H a = some u := by
  obtain ⟨i, hi, e⟩ := List.mem_iff_getElem.mp ha
  have hi' : i < M.length := by rw [← r.len]; exact hi
  have h1 := r.obj i a M[i] (by rw [List.getElem?_eq_getElem hi, e]) (List.getElem?_eq_getElem hi')
  cases ho : M[i] with
  | lst ds => rw [ho] at h1; obtain ⟨xs, e1, _⟩ := h1; exact ⟨_, e1⟩
  | dic kvs => rw [ho] at h1; obtain ⟨xs, e1, _⟩ := h1; exact ⟨_, e1⟩
theorem RepO.cong {a : Addr} {o : O} (e : H' a = H a) (h : RepO K k H a o) : RepO K k H' a o := by
  cases o with
  | lst ds => obtain ⟨xs, e1, h2⟩ := h; exact ⟨xs, e.trans e1, h2⟩
  | dic kvs => obtain ⟨xs, e1, h2⟩ := h; exact ⟨xs, e.trans e1, h2⟩
theorem RepO.mono {a : Addr} {o : O} (e : KLe k k') (h : RepO K k H a o) : RepO K k' H a o := by
  cases o with
  | lst ds => obtain ⟨xs, e1, h2⟩ := h; exact ⟨xs, e1, h2.mono e⟩
  | dic kvs => obtain ⟨xs, e1, h2⟩ := h; exact ⟨xs, e1, RepKV.mono e h2⟩
/-- an object that is neither known nor of the store is changed, or new -/
theorem Rel0.hid (r : Rel0 K k H M) (h1 : k.H p = none) (h2 : p ∉ k.ι) : Rel0 K k (upd H p o) M where
  ex := fun a u e => by
    rw [upd_ne (ne_of_none e h1)]
    exact r.ex a u e
  len := r.len
  nod := r.nod
  fr := r.fr
  obj := fun i a u e1 e2 => (r.obj i a u e1 e2).cong (upd_ne fun z => h2 (by rw [← z]; exact List.mem_of_getElem? e1))
theorem Rel0.free (r : Rel0 K k H M) (hp : H p = none) : k.H p = none ∧ p ∉ k.ι := by
  refine ⟨r.ex.free hp, fun hm => ?_⟩
  obtain ⟨u, e⟩ := r.known hm trivial
  rw [hp] at e
  cases e
theorem Rel0.new (r : Rel0 K k H M) (hp : H p = none) : Rel0 K k (upd H p o) M := r.hid (r.free hp).1 (r.free hp).2
theorem Stp.hid (s : Stp k H k' H') (hp : H p = none) : Stp k H k' (upd H' p o) where
  same := s.same
  pre := s.pre
  fr := s.fr
  nw := s.nw
  unt := fun a u e hn => by
    rw [upd_ne (ne_of_none e hp)]
    exact s.unt a u e hn
  al := fun a e => by
    by_cases ha : a = p
    · rw [ha]; exact hp
    · rw [upd_ne ha] at e
      exact s.al a e
theorem Stp.new (hp : H p = none) : Stp k H k (upd H p o) := (Stp.refl k H).hid hp
theorem kle_frz (h1 : k.H p = none) : KLe k ⟨upd k.H p o, k.ι⟩ := ⟨fun a u e => by
  rw [show (Kn.mk (upd k.H p o) k.ι).H = upd k.H p o from rfl, upd_ne (ne_of_none e h1)]
  exact e, List.prefix_refl _⟩
/-- freezing: a hidden object becomes known -/
theorem Rel0.frz (r : Rel0 K k H M) (e : H p = some o) (h1 : k.H p = none) (h2 : p ∉ k.ι) : Rel0 K ⟨upd k.H p o, k.ι⟩ H M where
  ex := fun a u h => by
    by_cases ha : a = p
    · subst ha
      rw [show (Kn.mk (upd k.H a o) k.ι).H = upd k.H a o from rfl, upd_same] at h
      rw [← h]; exact e
    · rw [show (Kn.mk (upd k.H p o) k.ι).H = upd k.H p o from rfl, upd_ne ha] at h
      exact r.ex a u h
  len := r.len
  nod := r.nod
  fr := fun a ha => by
    have ne : a ≠ p := fun z => h2 (by rw [← z]; exact ha)
    rw [show (Kn.mk (upd k.H p o) k.ι).H = upd k.H p o from rfl, upd_ne ne]
    exact r.fr a ha
  obj := fun i a u e1 e2 => (r.obj i a u e1 e2).mono (kle_frz h1)
theorem Stp.frz (s : Stp k H k' H') (hp : H p = none) (h1 : k'.H p = none) : Stp k H ⟨upd k'.H p o, k'.ι⟩ H' where
  same := fun a u e => by
    have e2 := s.same a u e
    rw [show (Kn.mk (upd k'.H p o) k'.ι).H = upd k'.H p o from rfl, upd_ne (ne_of_none e2 h1)]
    exact e2
  pre := s.pre
  fr := fun a u e => by
    by_cases ha : a = p
    · rw [ha]; exact .inr hp
    · rw [show (Kn.mk (upd k'.H p o) k'.ι).H = upd k'.H p o from rfl, upd_ne ha] at e
      exact s.fr a u e
  nw := s.nw
  unt := s.unt
  al := s.al
/-- a hidden object joins the store -/
theorem Rel0.join {q : O} (r : Rel0 K k H M) (h1 : k.H p = none) (h2 : p ∉ k.ι) (h : RepO K k H p q) : Rel0 K ⟨k.H, k.ι ++ [p]⟩ H (M ++ [q]) where
  ex := r.ex
  len := by simp [r.len]
  nod := by
    rw [List.nodup_append]
    exact ⟨r.nod, by simp, fun a ha b hb => by
      simp only [List.mem_singleton] at hb
      subst hb
      exact fun z => h2 (z ▸ ha)⟩
  fr := fun a ha => by
    rcases List.mem_append.mp ha with z | z
    · exact r.fr a z
    · simp only [List.mem_singleton] at z
      rw [z]; exact h1
  obj := fun i a u e1 e2 => by
    have le : KLe k ⟨k.H, k.ι ++ [p]⟩ := ⟨Same.refl _, List.prefix_append _ _⟩
    by_cases hi : i < k.ι.length
    · rw [show (Kn.mk k.H (k.ι ++ [p])).ι = k.ι ++ [p] from rfl, List.getElem?_append_left hi] at e1
      rw [List.getElem?_append_left (by rw [← r.len]; exact hi)] at e2
      exact (r.obj i a u e1 e2).mono le
    · rw [show (Kn.mk k.H (k.ι ++ [p])).ι = k.ι ++ [p] from rfl, List.getElem?_append_right (by omega)] at e1
      rw [List.getElem?_append_right (by rw [← r.len]; omega), ← r.len] at e2
      cases hj : i - k.ι.length with
      | zero =>
        rw [hj] at e1 e2
        have e1' : p = a := Option.some.inj e1
        have e2' : q = u := Option.some.inj e2
        subst e1' e2'
        exact h.mono le
      | succ n => rw [hj] at e1; simp at e1
theorem Stp.join (s : Stp k H k' H') (hp : H p = none) : Stp k H ⟨k'.H, k'.ι ++ [p]⟩ H' where
  same := s.same
  pre := s.pre.trans (List.prefix_append _ _)
  fr := s.fr
  nw := fun a ha => by
    rcases List.mem_append.mp ha with z | z
    · exact s.nw a z
    · simp only [List.mem_singleton] at z
      rw [z]; exact .inr hp
  unt := s.unt
  al := s.al
/-- an object of the store is written -/
theorem Rel0.put {i : Nat} {q : O} (r : Rel0 K k H M) (hi : k.ι[i]? = some p) (h : RepO K k (upd H p o) p q) : Rel0 K k (upd H p o) (M.set i q) where
  ex := fun a u e => by
    have := r.fr p (List.mem_of_getElem? hi)
    rw [upd_ne (ne_of_none e this)]
    exact r.ex a u e
  len := by simp [r.len]
  nod := r.nod
  fr := r.fr
  obj := fun j a u e1 e2 => by
    by_cases hj : i = j
    · subst hj
      rw [hi] at e1
      cases e1
      have hlt : i < M.length := by rw [← r.len]; exact (List.getElem?_eq_some_iff.mp hi).1
      rw [List.getElem?_set_self hlt] at e2
      cases e2
      exact h
    · rw [List.getElem?_set_ne hj] at e2
      refine (r.obj j a u e1 e2).cong (upd_ne fun z => hj ?_)
      subst z
      exact nd_ix r.nod hi e1
theorem Stp.put (s : Stp k H k' H') {i : Nat} (hi : k'.ι[i]? = some p) : Stp k H k' (upd H' p o) where
  same := s.same
  pre := s.pre
  fr := s.fr
  nw := s.nw
  unt := fun a u e hn => by
    by_cases ha : a = p
    · subst ha
      rcases s.nw a (List.mem_of_getElem? hi) with z | z
      · exact absurd z hn
      · rw [z] at e; cases e
    · rw [upd_ne ha]
      exact s.unt a u e hn
  al := fun a e => by
    by_cases ha : a = p
    · subst ha; rw [upd_same] at e; cases e
    · rw [upd_ne ha] at e
      exact s.al a e
end
/-! ### new lists -/
section
variable (K : PySem.W.Frag) (mg : Str → Option Value) (E : XK)
def PostN (k : Kn) (H : Hp) (r : Res (List D)) (Q : VK) : Prop := match r with
  | .ok ds M' => ∀ k' H' p xs, Stp k H k' H' → Rel0 K k' H' M' → H' p = some (.lst xs) → k'.H p = none → p ∉ k'.ι → H p = none → RepL K k' ds xs → Q (.ref p) H'
  | .exc c x M' => ∀ k' H' C od, Stp k H k' H' → Rel0 K k' H' M' → ExcRep K mg k' c x H' C od → E C od H'
  | .bad => False
end
section
variable {K : PySem.W.Frag} {mg : Str → Option Value} {E : XK} {k k' : Kn} {H H' : Hp} {M : Mem} {Q : VK}
theorem PostN.step {r : Res (List D)} (s : Stp k H k' H') (h : PostN K mg E k H r Q) : PostN K mg E k' H' r Q := by
  cases r with
  | ok d M' => exact fun k2 H2 p xs s2 r2 h1 h2 h3 h4 h5 => h k2 H2 p xs (s.trans s2) r2 h1 h2 h3 (s.al p h4) h5
  | exc c x M' => exact fun k2 H2 C od s2 r2 q2 => h k2 H2 C od (s.trans s2) r2 q2
  | bad => exact h
theorem PostN.bind {α β : Type} {rep : Kn → α → β → Prop} {r : Res α} {Q' : β → Hp → Prop} {g : α → Mem → Res (List D)} (h : PostN K mg E k H (r.bind g) Q)
    (st : ∀ a M1 k1 x H1, Stp k H k1 H1 → Rel0 K k1 H1 M1 → rep k1 a x → PostN K mg E k1 H1 (g a M1) Q → Q' x H1) : Post K mg E rep k H r Q' := by
  cases r with
  | ok a M1 => exact fun k1 x H1 s1 r1 q1 => st a M1 k1 x H1 s1 r1 q1 (PostN.step s1 h)
  | exc c x M1 => exact h
  | bad => exact h
/-- a new list laid down -/
theorem PostN.new {ds : List D} {xs : List V} {p : Addr} (h : PostN K mg E k H (.ok ds M) Q) (r : Rel0 K k H M) (hp : H p = none) (q : RepL K k ds xs) : Q (.ref p) (upd H p (.lst xs)) :=
  h k (upd H p (.lst xs)) p xs (Stp.new hp) (r.new hp) upd_same (r.free hp).1 (r.free hp).2 hp q
end
abbrev SemN := Env → Mem → Res (List D)
structure XN (X : Cx) (E : XK) (e : Expr) (f : SemN) : Prop where
  run : ∀ k σ H ρ M, RelE X.K k σ ρ → Rel0 X.K k H M → ∀ Q : VK, PostN X.K X.mg E k H (f ρ M) Q → WE X e σ H Q
def cL (f : SemN) : SemE := fun ρ M => (f ρ M).bind fun ds M1 => .ok (.lst ds) M1
def cR (f : SemN) : SemE := fun ρ M => (f ρ M).bind fun ds M1 => .ok (.ref M1.length) (M1 ++ [.lst ds])
section
variable {X : Cx} {E : XK} {e : Expr} {f : SemN}
theorem XN.lst (h : XN X E e f) : XE X E e (cL f) := by
  refine ⟨fun k σ H ρ M re r0 Q p => h.run k σ H ρ M re r0 Q ?_⟩
  unfold cL at p
  cases hf : f ρ M with
  | ok ds M1 =>
    rw [hf] at p
    intro k' H' a xs s r e1 h1 h2 h3 h4
    refine p ⟨upd k'.H a (.lst xs), k'.ι⟩ (.ref a) H' (s.frz h3 h1) (r.frz e1 h1 h2) ?_
    simp only [RepV]
    exact ⟨a, xs, rfl, SqL.of upd_same, h4.mono (kle_frz h1)⟩
  | exc c x M1 => rw [hf] at p; exact p
  | bad => rw [hf] at p; exact p
theorem XN.ref (h : XN X E e f) : XE X E e (cR f) := by
  refine ⟨fun k σ H ρ M re r0 Q p => h.run k σ H ρ M re r0 Q ?_⟩
  unfold cR at p
  cases hf : f ρ M with
  | ok ds M1 =>
    rw [hf] at p
    intro k' H' a xs s r e1 h1 h2 h3 h4
    refine p ⟨k'.H, k'.ι ++ [a]⟩ (.ref a) H' (s.join h3) (r.join h1 h2 ⟨xs, e1, h4⟩) ?_
    simp only [RepV]
    exact ⟨a, rfl, by rw [← r.len]; simp⟩
  | exc c x M1 => rw [hf] at p; exact p
  | bad => rw [hf] at p; exact p
/-- [a, b, ..] -/
def cLst (g : SemA) : SemN := fun ρ M => (g ρ M).bind fun ds M1 => if ds.length ≤ 1000000 then .ok ds M1 else .bad
theorem big {n : Nat} (h : n ≤ 1000000) : n < sizeLine := Nat.lt_of_le_of_lt h (by decide)
theorem small_line {n : Nat} (h : n ≤ 1000000) : n ≤ sizeLine := Nat.le_trans h (by decide)
theorem xn_lst {es : List Expr} {g : SemA} {pos : Pos} (h : XA X E es g) : XN X E (.List es pos) (cLst g) := by
  refine ⟨fun k σ H ρ M re r0 Q p => ⟨_, pe_lst pa_wa, ?_⟩⟩
  refine h.run k σ H ρ M re r0 _ (PostN.bind p fun ds M1 k1 vs H1 s1 r1 q1 p1 => ?_)
  by_cases hz : ds.length ≤ 1000000
  · rw [if_pos hz] at p1
    exact ⟨by rw [q1.length]; exact small_line hz, fun a ha => p1.new r1 ha q1⟩
  · rw [if_neg hz] at p1
    exact p1.elim
def cTup (g : SemA) : SemE := fun ρ M => (g ρ M).bind fun ds M1 => if ds.length ≤ 1000000 then .ok (.tup ds) M1 else .bad
/-- a new tuple laid down -/
theorem PostE.tup {k : Kn} {H : Hp} {M : Mem} {Q : VK} {ds : List D} {xs : List V} {a : Addr} (h : PostE X E k H (.ok (.tup ds) M) Q) (r : Rel0 X.K k H M) (hp : H a = none) (q : RepL X.K k ds xs) : Q (.ref a) (upd H a (.tup xs)) := by
  have h1 := (r.free hp).1
  refine h ⟨upd k.H a (.tup xs), k.ι⟩ (.ref a) _ ((Stp.new hp).frz hp h1) ((r.new hp).frz upd_same h1 (r.free hp).2) ?_
  simp only [RepV]
  exact ⟨a, xs, rfl, SqT.of upd_same, q.mono (kle_frz h1)⟩
theorem xe_tup {es : List Expr} {g : SemA} {x1} {pos : Pos} (h : XA X E es g) : XE X E (.Tuple es x1 pos) (cTup g) := by
  refine ⟨fun k σ H ρ M re r0 Q p => ⟨_, pe_tup pa_wa, ?_⟩⟩
  refine h.run k σ H ρ M re r0 _ (Post.bind p fun ds M1 k1 vs H1 s1 r1 q1 p1 => ?_)
  by_cases hz : ds.length ≤ 1000000
  · rw [if_pos hz] at p1
    exact ⟨by rw [q1.length]; exact small_line hz, fun a ha => PostE.tup p1 r1 ha q1⟩
  · rw [if_neg hz] at p1
    exact p1.elim
end
end G
set_option maxHeartbeats 2000000
namespace G
open PySem PySem.Spec PyProof.Rows L2
/-! ### targets -/
theorem wipe_set_mem {σ : L2.St} {i : Nat} {x : Option V} : ∀ {vs : List Nat}, i ∈ vs → wipe (σ.set i x) vs = wipe σ vs
  | [], h => nomatch h
  | v :: vs, h => by
    show (wipe (σ.set i x) vs).set v none = (wipe σ vs).set v none
    by_cases hv : i ∈ vs
    · rw [wipe_set_mem hv]
    · have e : i = v := by
        rcases List.mem_cons.mp h with z | z
        · exact z
        · exact absurd z hv
      subst e
      have key : ∀ (us : List Nat), i ∉ us → wipe (σ.set i x) us = (wipe σ us).set i x := by
        intro us
        induction us with
        | nil => intro _; rfl
        | cons u us ih =>
          intro hu
          have h1 : i ∉ us := fun z => hu (List.mem_cons_of_mem _ z)
          have h2 : i ≠ u := fun z => hu (by rw [z]; exact List.mem_cons_self)
          show (wipe (σ.set i x) us).set u none = ((wipe σ us).set u none).set i x
          rw [ih h1, List.set_comm _ _ h2]
      rw [key vs hv, List.set_set]
abbrev TgE := D → Env → Option Env
abbrev TgL := List D → Env → Option Env
structure XG (X : Cx) (tg : Expr) (is : List Nat) (g : TgE) : Prop where
  run : ∀ k σ H ρ M d v, RelE X.K k σ ρ → Rel0 X.K k H M → RepV X.K k d v → ∀ ρ', g d ρ = some ρ' → ∀ Q : L2.St → Hp → Prop, (∀ σ', RelE X.K k σ' ρ' → (∀ vs, (∀ i ∈ is, i ∈ vs) → wipe σ' vs = wipe σ vs) → Q σ' H) → WG X tg v σ H Q
def WGs (X : Cx) (tgs : List Expr) : TGs := fun v σ H Q => ∃ t, PGs X tgs t ∧ t v σ H Q
theorem pgs_wgs {X : Cx} {tgs : List Expr} : PGs X tgs (WGs X tgs) := ⟨fun pins s σ H vs us Q I r ⟨_, h, q⟩ => h.run pins s σ H vs us Q I r q⟩
structure XGs (X : Cx) (tgs : List Expr) (is : List Nat) (g : TgL) : Prop where
  run : ∀ k σ H ρ M ds vs, RelE X.K k σ ρ → Rel0 X.K k H M → RepL X.K k ds vs → ∀ ρ', g ds ρ = some ρ' → ∀ Q : L2.St → Hp → Prop, (∀ σ', RelE X.K k σ' ρ' → (∀ ws, (∀ i ∈ is, i ∈ ws) → wipe σ' ws = wipe σ ws) → Q σ' H) → WGs X tgs vs σ H Q
def tgName (i : Nat) : TgE := fun d ρ => some (ρ.set i (some d))
def tgNil : TgL := fun ds ρ => match ds with
  | [] => some ρ
  | _ => none
def tgCons (g : TgE) (h : TgL) : TgL := fun ds ρ => match ds with
  | [] => none
  | d :: ds => (g d ρ).bind fun ρ1 => h ds ρ1
def tgTup (h : TgL) : TgE := fun d ρ => match d with
  | .tup ds => h ds ρ
  | .lst ds => h ds ρ
  | _ => none
section
variable {X : Cx}
theorem xg_name {i : Nat} {e : Expr} (h : PG X e (gName i)) : XG X e [i] (tgName i) := by
  refine ⟨fun k σ H ρ M d v re r0 rv ρ' hg Q q => ⟨_, h, ?_⟩⟩
  have e : ρ' = ρ.set i (some d) := (Option.some.inj hg).symm
  subst e
  exact q _ (re.set rv) fun vs hv => wipe_set_mem (hv i List.mem_cons_self)
theorem xgs_nil : XGs X [] [] tgNil := by
  refine ⟨fun k σ H ρ M ds vs re r0 rv ρ' hg Q q => ⟨_, pgs_nil, ?_⟩⟩
  cases ds with
  | nil =>
    simp only [RepL] at rv
    have e : ρ' = ρ := (Option.some.inj hg).symm
    subst e
    exact ⟨rv, q σ re fun _ _ => rfl⟩
  | cons d ds => simp [tgNil] at hg
theorem xgs_cons {e : Expr} {es : List Expr} {is js : List Nat} {g : TgE} {h : TgL} (h1 : XG X e is g) (h2 : XGs X es js h)
    (hs : (assignEach (e :: es) X.env).map (·.2) = assign e X.env :: (assignEach es X.env).map (·.2) := by rfl) : XGs X (e :: es) (is ++ js) (tgCons g h) := by
  refine ⟨fun k σ H ρ M ds vs re r0 rv ρ' hg Q q => ⟨_, pgs_cons pg_wg pgs_wgs hs, ?_⟩⟩
  cases ds with
  | nil => simp [tgCons] at hg
  | cons d ds =>
    simp only [RepL] at rv
    obtain ⟨x, r, rfl, rv1, rv2⟩ := rv
    simp only [tgCons] at hg
    cases hg1 : g d ρ with
    | none => rw [hg1] at hg; cases hg
    | some ρ1 =>
      rw [hg1] at hg
      refine ⟨x, r, rfl, h1.run k σ H ρ M d x re r0 rv1 ρ1 hg1 _ fun σ1 re1 w1 => ?_⟩
      refine h2.run k σ1 H ρ1 M ds r re1 r0 rv2 ρ' hg _ fun σ2 re2 w2 => q σ2 re2 fun vs hv => ?_
      rw [w2 vs fun i hi => hv i (List.mem_append_right _ hi), w1 vs fun i hi => hv i (List.mem_append_left _ hi)]
theorem xg_tup {es : List Expr} {kk : Nat} {is : List Nat} {pos : Pos} {h : TgL} {n : Nat} (hc : X.calm = true) (hh : XGs X es is h)
    (hn : (assignEach es X.env).length = n := by rfl) (hst : (assignEach es X.env).findIdx? (·.1) = none := by rfl) (hl : ∀ ds ρ ρ', h ds ρ = some ρ' → ds.length = n) : XG X (.Tuple es kk pos) is (tgTup h) := by
  refine ⟨fun k σ H ρ M d v re r0 rv ρ' hg Q q => ?_⟩
  cases d with
  | tup ds =>
    simp only [RepV] at rv
    obtain ⟨a, xs, rfl, hs, rl⟩ := rv
    refine ⟨_, pg_tup hc pgs_wgs hn hst, a, xs, rfl, seqT_same r0.ex hs, ?_, hh.run k σ H ρ M ds xs re r0 rl ρ' hg Q q⟩
    rw [rl.length]
    exact hl ds ρ ρ' hg
  | lst ds =>
    simp only [RepV] at rv
    obtain ⟨a, xs, rfl, hs, rl⟩ := rv
    refine ⟨_, pg_lst hc pgs_wgs hn hst, a, xs, rfl, r0.ex.seq hs, ?_, hh.run k σ H ρ M ds xs re r0 rl ρ' hg Q q⟩
    rw [rl.length]
    exact hl ds ρ ρ' hg
  | _ => simp [tgTup] at hg
theorem tgNil_len : ∀ ds ρ ρ', tgNil ds ρ = some ρ' → ds.length = 0 := fun ds ρ ρ' h => by
  cases ds with
  | nil => rfl
  | cons _ _ => simp [tgNil] at h
theorem tgCons_len {g : TgE} {h : TgL} {n : Nat} (hl : ∀ ds ρ ρ', h ds ρ = some ρ' → ds.length = n) : ∀ ds ρ ρ', tgCons g h ds ρ = some ρ' → ds.length = n + 1 := fun ds ρ ρ' e => by
  cases ds with
  | nil => simp [tgCons] at e
  | cons d ds =>
    simp only [tgCons] at e
    cases hg : g d ρ with
    | none => rw [hg] at e; cases e
    | some ρ1 =>
      rw [hg] at e
      rw [List.length_cons, hl ds ρ1 ρ' e]
end
/-! ### statements -/
inductive Flow where
  | nx (ρ : Env) (M : Mem)
  | rt (d : D) (M : Mem)
  | bk (ρ : Env) (M : Mem)
  | ct (ρ : Env) (M : Mem)
  | exc (c : Str) (x : Option (Str × D)) (M : Mem)
  | bad
def Flow.then (f : Flow) (g : Env → Mem → Flow) : Flow := match f with
  | .nx ρ M => g ρ M
  | o => o
def Res.flow {α : Type} (r : Res α) (g : α → Mem → Flow) : Flow := match r with
  | .ok a M => g a M
  | .exc c x M => .exc c x M
  | .bad => .bad
@[simp] theorem Flow.then_nx {ρ : Env} {M : Mem} {g : Env → Mem → Flow} : (Flow.nx ρ M).then g = g ρ M := rfl
@[simp] theorem Flow.then_rt {d : D} {M : Mem} {g : Env → Mem → Flow} : (Flow.rt d M).then g = .rt d M := rfl
@[simp] theorem Flow.then_bk {ρ : Env} {M : Mem} {g : Env → Mem → Flow} : (Flow.bk ρ M).then g = .bk ρ M := rfl
@[simp] theorem Flow.then_ct {ρ : Env} {M : Mem} {g : Env → Mem → Flow} : (Flow.ct ρ M).then g = .ct ρ M := rfl
@[simp] theorem Flow.then_exc {c : Str} {x : Option (Str × D)} {M : Mem} {g : Env → Mem → Flow} : (Flow.exc c x M).then g = .exc c x M := rfl
@[simp] theorem Flow.then_bad {g : Env → Mem → Flow} : Flow.bad.then g = .bad := rfl
@[simp] theorem Res.flow_ok {α : Type} {a : α} {M : Mem} {g : α → Mem → Flow} : (Res.ok a M).flow g = g a M := rfl
@[simp] theorem Res.flow_exc {α : Type} {c : Str} {x : Option (Str × D)} {M : Mem} {g : α → Mem → Flow} : (Res.exc c x M : Res α).flow g = .exc c x M := rfl
@[simp] theorem Res.flow_bad {α : Type} {g : α → Mem → Flow} : (Res.bad : Res α).flow g = .bad := rfl
section
variable (K : PySem.W.Frag) (mg : Str → Option Value) (E : XK)
def PostF (k : Kn) (H : Hp) (r : Flow) (D : Ends) : Prop := match r with
  | .nx ρ M' => ∀ k' σ' H', Stp k H k' H' → RelE K k' σ' ρ → Rel0 K k' H' M' → D.nx σ' H'
  | .rt d M' => ∀ k' v H', Stp k H k' H' → Rel0 K k' H' M' → RepV K k' d v → D.rt v H'
  | .bk ρ M' => ∀ k' σ' H', Stp k H k' H' → RelE K k' σ' ρ → Rel0 K k' H' M' → D.bk σ' H'
  | .ct ρ M' => ∀ k' σ' H', Stp k H k' H' → RelE K k' σ' ρ → Rel0 K k' H' M' → D.ct σ' H'
  | .exc c x M' => ∀ k' H' C od, Stp k H k' H' → Rel0 K k' H' M' → ExcRep K mg k' c x H' C od → E C od H'
  | .bad => False
end
abbrev PostS (X : Cx) (E : XK) := PostF X.K X.mg E
section
variable {K : PySem.W.Frag} {mg : Str → Option Value} {E : XK} {k k' : Kn} {H H' : Hp} {M : Mem} {r : Flow} {D : Ends}
theorem PostF.step (s : Stp k H k' H') (h : PostF K mg E k H r D) : PostF K mg E k' H' r D := by
  cases r with
  | nx ρ M' => exact fun k2 v H2 s2 re r2 => h k2 v H2 (s.trans s2) re r2
  | rt d M' => exact fun k2 v H2 s2 re r2 => h k2 v H2 (s.trans s2) re r2
  | bk ρ M' => exact fun k2 v H2 s2 re r2 => h k2 v H2 (s.trans s2) re r2
  | ct ρ M' => exact fun k2 v H2 s2 re r2 => h k2 v H2 (s.trans s2) re r2
  | exc c x M' => exact fun k2 H2 C od s2 r2 q2 => h k2 H2 C od (s.trans s2) r2 q2
  | bad => exact h
theorem PostF.bind {α β : Type} {rep : Kn → α → β → Prop} {r : Res α} {Q' : β → Hp → Prop} {g : α → Mem → Flow} (h : PostF K mg E k H (r.flow g) D)
    (st : ∀ a M1 k1 x H1, Stp k H k1 H1 → Rel0 K k1 H1 M1 → rep k1 a x → PostF K mg E k1 H1 (g a M1) D → Q' x H1) : Post K mg E rep k H r Q' := by
  cases r with
  | ok a M1 => exact fun k1 x H1 s1 r1 q1 => st a M1 k1 x H1 s1 r1 q1 (PostF.step s1 h)
  | exc c x M1 => exact h
  | bad => exact h
theorem PostF.go {σ : L2.St} {ρ : Env} (h : PostF K mg E k H (.nx ρ M) D) (re : RelE K k σ ρ) (r0 : Rel0 K k H M) : D.nx σ H := h k σ H (Stp.refl k H) re r0
end
abbrev SemS := Env → Mem → Flow
structure XS (X : Cx) (E : XK) (st : Stmt) (f : SemS) : Prop where
  run : ∀ k σ H ρ M, RelE X.K k σ ρ → Rel0 X.K k H M → ∀ D : Ends, PostS X E k H (f ρ M) D → WS X st D σ H
structure XSs (X : Cx) (E : XK) (st : List Stmt) (f : SemS) : Prop where
  run : ∀ k σ H ρ M, RelE X.K k σ ρ → Rel0 X.K k H M → ∀ D : Ends, PostS X E k H (f ρ M) D → WSs X st D σ H
def cSeq (f g : SemS) : SemS := fun ρ M => (f ρ M).then g
def cEnd : SemS := fun ρ M => .nx ρ M
def cRet (f : SemE) : SemS := fun ρ M => (f ρ M).flow fun d M1 => .rt d M1
def cDo (f : SemE) : SemS := fun ρ M => (f ρ M).flow fun _ M1 => .nx ρ M1
def cAsg (f : SemE) (g : TgE) : SemS := fun ρ M => (f ρ M).flow fun d M1 => match g d ρ with
  | some ρ1 => .nx ρ1 M1
  | none => .bad
def cIfS (t : SemT) (f g : SemS) : SemS := fun ρ M => (t ρ M).flow fun b M1 => if b then f ρ M1 else g ρ M1
section
variable {X : Cx} {E : XK} {st : Stmt} {rest : List Stmt} {f g : SemS} {e c : Expr} {fe : SemE} {t : SemT} {pos : Pos}
theorem xss_nil : XSs X E [] cEnd := ⟨fun k σ H ρ M re r0 D p => ⟨_, pss_nil, p.go re r0⟩⟩
theorem xss_cons (h1 : XS X E st f) (h2 : XSs X E rest g) : XSs X E (st :: rest) (cSeq f g) := by
  refine ⟨fun k σ H ρ M re r0 D p => ⟨_, pss_cons ps_ws pss_wss, ?_⟩⟩
  refine h1.run k σ H ρ M re r0 _ ?_
  unfold cSeq at p
  cases hf : f ρ M with
  | nx ρ1 M1 =>
    rw [hf] at p
    intro k1 σ1 H1 s1 re1 r1
    exact h2.run k1 σ1 H1 ρ1 M1 re1 r1 D (PostF.step s1 p)
  | rt d M1 => rw [hf] at p; exact p
  | bk ρ1 M1 => rw [hf] at p; exact p
  | ct ρ1 M1 => rw [hf] at p; exact p
  | exc c x M1 => rw [hf] at p; exact p
  | bad => rw [hf] at p; exact p
theorem xs_ret (h : XE X E e fe) : XS X E (.Return (some e) pos) (cRet fe) := by
  refine ⟨fun k σ H ρ M re r0 D p => ⟨_, ps_ret pe_we, ?_⟩⟩
  refine h.run k σ H ρ M re r0 _ (PostF.bind p fun d M1 k1 v H1 s1 r1 q1 p1 => ?_)
  exact p1 k1 v H1 (Stp.refl _ _) r1 q1
theorem xs_retN : XS X E (.Return none pos) (cRet (cC .non)) := by
  refine ⟨fun k σ H ρ M re r0 D p => ⟨_, ps_retN, ?_⟩⟩
  exact p k .non H (Stp.refl _ _) r0 (by simp only [RepV])
theorem xs_do (h : XE X E e fe) (hs : swapsWith e none pos.line X.env = pure false := by rfl) : XS X E (.Expr e pos) (cDo fe) := by
  refine ⟨fun k σ H ρ M re r0 D p => ⟨_, ps_expr pe_we hs, ?_⟩⟩
  refine h.run k σ H ρ M re r0 _ (PostF.bind p fun d M1 k1 v H1 s1 r1 q1 p1 => ?_)
  exact p1.go (re.mono s1.le) r1
theorem xs_pass : XS X E (.Pass pos) cEnd := ⟨fun k σ H ρ M re r0 D p => ⟨_, ps_pass, p.go re r0⟩⟩
theorem xs_break : XS X E (.Break pos) (fun ρ M => .bk ρ M) := ⟨fun k σ H ρ M re r0 D p => ⟨_, ps_break, p k σ H (Stp.refl _ _) re r0⟩⟩
theorem xs_continue : XS X E (.Continue pos) (fun ρ M => .ct ρ M) := ⟨fun k σ H ρ M re r0 D p => ⟨_, ps_continue, p k σ H (Stp.refl _ _) re r0⟩⟩
theorem asg_run {tg : Expr} {is : List Nat} {gt : TgE} (h : XE X E e fe) (hg : XG X tg is gt) {k : Kn} {σ : L2.St} {H : Hp} {ρ : Env} {M : Mem} (re : RelE X.K k σ ρ) (r0 : Rel0 X.K k H M) {D : Ends} (p : PostS X E k H (cAsg fe gt ρ M) D) :
    tAsg (WE X e) (WG X tg) D σ H := by
  refine h.run k σ H ρ M re r0 _ (PostF.bind p fun d M1 k1 v H1 s1 r1 q1 p1 => ?_)
  cases hg1 : gt d ρ with
  | none => rw [hg1] at p1; exact p1.elim
  | some ρ1 =>
    rw [hg1] at p1
    exact hg.run k1 σ H1 ρ M1 d v (re.mono s1.le) r1 q1 ρ1 hg1 _ fun σ' re' _ => p1.go re' r1
theorem xs_asg {tg : Expr} {is : List Nat} {gt : TgE} (h : XE X E e fe) (hg : XG X tg is gt) (hs : swapsWithSole [tg] e pos.line X.env = pure false := by rfl) (hw : swappedStores [tg] e X.env = pure none := by rfl)
    (h1 : (assignEach [tg] X.env).map (·.2) = [assign tg X.env] := by rfl) : XS X E (.Assign [tg] e pos) (cAsg fe gt) :=
  ⟨fun k σ H ρ M re r0 D p => ⟨_, ps_asg pe_we pg_wg hs hw h1, asg_run h hg re r0 p⟩⟩
theorem xs_if {a b : List Stmt} (hc : XT X E c t) (ha : XSs X E a f) (hb : XSs X E b g) : XS X E (.If c a b pos) (cIfS t f g) := by
  refine ⟨fun k σ H ρ M re r0 D p => ⟨_, ps_if pt_wt pss_wss pss_wss, ?_⟩⟩
  refine hc.run k σ H ρ M re r0 _ (PostF.bind p fun d M1 k1 v H1 s1 r1 q1 p1 => ?_)
  cases q1
  cases d with
  | true => exact ha.run k1 σ H1 ρ M1 (re.mono s1.le) r1 D p1
  | false => exact hb.run k1 σ H1 ρ M1 (re.mono s1.le) r1 D p1
end
/-! ### loops -/
/-- what a for walks: the items, and what must stay true of the store meanwhile -/
structure Src where
  ds : List D
  gd : Mem → Prop
def PostI (X : Cx) (E : XK) (k : Kn) (H : Hp) (r : Res Src) (R : It → Hp → Prop) : Prop := match r with
  | .ok s M' => ∀ k' H' J G Y, Stp k H k' H' → Rel0 X.K k' H' M' → Walk J s.ds.length G Y → (∀ k2 H2 M2, Stp k' H' k2 H2 → Rel0 X.K k2 H2 M2 → s.gd M2 → G H2) →
      (∀ i H2 x H3 k2 M2 d, Stp k' H' k2 H2 → Rel0 X.K k2 H2 M2 → s.gd M2 → Y i H2 x H3 → s.ds[i]? = some d → ∃ k3, Stp k2 H2 k3 H3 ∧ Rel0 X.K k3 H3 M2 ∧ RepV X.K k3 d x) → R J H'
  | .exc c x M' => ∀ k' H' C od, Stp k H k' H' → Rel0 X.K k' H' M' → ExcRep X.K X.mg k' c x H' C od → E C od H'
  | .bad => False
abbrev SemI := Env → Mem → Res Src
structure XI (X : Cx) (E : XK) (tg iter : Expr) (f : SemI) : Prop where
  run : ∀ k σ H ρ M, RelE X.K k σ ρ → Rel0 X.K k H M → ∀ R : It → Hp → Prop, PostI X E k H (f ρ M) R → WI X tg iter σ H R
open Classical in
noncomputable def forL (gd : Mem → Prop) (g : TgE) (body : SemS) : List D → Env → Mem → Flow
  | [], ρ, M => if gd M then .nx ρ M else .bad
  | d :: ds, ρ, M => if gd M then match g d ρ with
      | none => .bad
      | some ρ1 => match body ρ1 M with
        | .nx ρ2 M2 => forL gd g body ds ρ2 M2
        | .ct ρ2 M2 => forL gd g body ds ρ2 M2
        | .bk ρ2 M2 => .nx ρ2 M2
        | o => o
    else .bad
noncomputable def cFor (it : SemI) (g : TgE) (body : SemS) : SemS := fun ρ M => (it ρ M).flow fun s M1 => forL s.gd g body s.ds ρ M1
section
variable {X : Cx} {E : XK}
theorem xs_for {tg iter : Expr} {body : List Stmt} {is : List Nat} {f : SemI} {g : TgE} {b : SemS} {pos : Pos} (hp : PassesOwn (model X.prog X.w) X.A X.env X.xe) (hc : X.calm = true) (hi : XI X E tg iter f) (hg : XG X tg is g) (hb : XSs X E body b)
    (hs : ∀ x, foldedSetIterable iter X.env x = pure x := by intro _; rfl) : XS X E (.For tg iter body [] pos) (cFor f g b) := by
  refine ⟨fun k σ H ρ M re r0 D p => ⟨_, ps_for hp hc pi_wi pg_wg pss_wss hs, ?_⟩⟩
  refine hi.run k σ H ρ M re r0 _ ?_
  unfold cFor at p
  cases hf : f ρ M with
  | bad => rw [hf] at p; exact p
  | exc c x M1 => rw [hf] at p; exact p
  | ok s M1 =>
    rw [hf] at p
    simp only [Res.flow_ok] at p
    intro k1 H1 J G Y s1 r1 wk hG hY
    refine for_it wk (fun i σ' H' => ∃ k' ρ' M', Stp k1 H1 k' H' ∧ RelE X.K k' σ' ρ' ∧ Rel0 X.K k' H' M' ∧ PostS X E k' H' (forL s.gd g b (s.ds.drop i) ρ' M') D) ?_ ?_ ?_ ?_
    · exact ⟨k1, ρ, M1, Stp.refl _ _, re.mono s1.le, r1, PostF.step s1 p⟩
    · rintro i σ' H' hi ⟨k', ρ', M', s', re', r', p'⟩
      have hgd : s.gd M' := by
        by_cases h : s.gd M'
        · exact h
        · exfalso
          cases hd : s.ds.drop i with
          | nil => rw [hd] at p'; simp only [forL, if_neg h] at p'; exact p'
          | cons d r => rw [hd] at p'; simp only [forL, if_neg h] at p'; exact p'
      exact hG k' H' M' s' r' hgd
    · rintro i x σ' H' H2 hi ⟨k', ρ', M', s', re', r', p'⟩ y
      rw [List.drop_eq_getElem_cons hi] at p'
      by_cases h : s.gd M'
      · obtain ⟨k3, s3, r3, rv⟩ := hY i H' x H2 k' M' s.ds[i] s' r' h y (List.getElem?_eq_getElem hi)
        simp only [forL, if_pos h] at p'
        cases hg1 : g s.ds[i] ρ' with
        | none => rw [hg1] at p'; exact p'.elim
        | some ρ1 =>
          rw [hg1] at p'
          simp only at p'
          refine hg.run k3 σ' H2 ρ' M' s.ds[i] x (re'.mono s3.le) r3 rv ρ1 hg1 _ fun σ2 re2 _ => ?_
          refine hb.run k3 σ2 H2 ρ1 M' re2 r3 _ ?_
          have p2 := PostF.step s3 p'
          cases hbd : b ρ1 M' with
          | nx ρ2 M2 =>
            rw [hbd] at p2
            exact fun k4 σ4 H4 s4 re4 r4 => ⟨k4, ρ2, M2, (s'.trans s3).trans s4, re4, r4, PostF.step s4 p2⟩
          | ct ρ2 M2 =>
            rw [hbd] at p2
            exact fun k4 σ4 H4 s4 re4 r4 => ⟨k4, ρ2, M2, (s'.trans s3).trans s4, re4, r4, PostF.step s4 p2⟩
          | bk ρ2 M2 =>
            rw [hbd] at p2
            exact p2
          | rt d M2 => rw [hbd] at p2; exact p2
          | exc c x M2 => rw [hbd] at p2; exact p2
          | bad => rw [hbd] at p2; exact p2
      · simp only [forL, if_neg h] at p'
        exact p'.elim
    · rintro σ' H' ⟨k', ρ', M', s', re', r', p'⟩
      rw [List.drop_length] at p'
      by_cases h : s.gd M'
      · simp only [forL, if_pos h] at p'
        exact p'.go re' r'
      · simp only [forL, if_neg h] at p'
        exact p'.elim
end
/-! ### while -/
def whileN (t : SemT) (b : SemS) : Nat → Env → Mem → Flow
  | 0, _, _ => .bad
  | n + 1, ρ, M => (t ρ M).flow fun c M1 => if c then match b ρ M1 with
      | .nx ρ2 M2 => whileN t b n ρ2 M2
      | .ct ρ2 M2 => whileN t b n ρ2 M2
      | .bk ρ2 M2 => .nx ρ2 M2
      | o => o
    else .nx ρ M1
open Classical in
noncomputable def cWhile (t : SemT) (b : SemS) : SemS := fun ρ M => if h : ∃ n, whileN t b n ρ M ≠ .bad then whileN t b (Classical.choose h) ρ M else .bad
theorem whileN_mono {t : SemT} {b : SemS} : ∀ {n : Nat} {ρ : Env} {M : Mem}, whileN t b n ρ M ≠ .bad → ∀ m, n ≤ m → whileN t b m ρ M = whileN t b n ρ M
  | 0, _, _, h, _, _ => absurd rfl h
  | n + 1, ρ, M, h, m, hm => by
    obtain ⟨m', rfl⟩ : ∃ m', m = m' + 1 := ⟨m - 1, by omega⟩
    simp only [whileN] at h ⊢
    cases ht : t ρ M with
    | bad => rfl
    | exc c x M1 => rfl
    | ok c M1 =>
      rw [ht] at h
      simp only [Res.flow_ok] at h ⊢
      cases c with
      | false => rfl
      | true =>
        simp only [if_true] at h ⊢
        cases hb : b ρ M1 with
        | nx ρ2 M2 => rw [hb] at h; exact whileN_mono h m' (by omega)
        | ct ρ2 M2 => rw [hb] at h; exact whileN_mono h m' (by omega)
        | _ => rfl
theorem cWhile_of {t : SemT} {b : SemS} {n : Nat} {ρ : Env} {M : Mem} (h : whileN t b n ρ M ≠ .bad) : cWhile t b ρ M = whileN t b n ρ M := by
  have hx : ∃ n, whileN t b n ρ M ≠ .bad := ⟨n, h⟩
  unfold cWhile
  rw [dif_pos hx]
  have h2 := Classical.choose_spec hx
  rcases Nat.le_total (Classical.choose hx) n with z | z
  · exact (whileN_mono h2 n z).symm
  · exact whileN_mono h _ z
/-- one turn -/
theorem cWhile_eq {t : SemT} {b : SemS} {ρ : Env} {M : Mem} : cWhile t b ρ M = (t ρ M).flow fun c M1 => if c then match b ρ M1 with
      | .nx ρ2 M2 => cWhile t b ρ2 M2
      | .ct ρ2 M2 => cWhile t b ρ2 M2
      | .bk ρ2 M2 => .nx ρ2 M2
      | o => o
    else .nx ρ M1 := by
  cases ht : t ρ M with
  | bad =>
    unfold cWhile
    rw [dif_neg]
    · rfl
    · rintro ⟨n, h⟩
      cases n with
      | zero => exact h rfl
      | succ n => simp only [whileN, ht, Res.flow_bad] at h; exact h rfl
  | exc c x M1 =>
    have e : whileN t b 1 ρ M = .exc c x M1 := by simp only [whileN, ht, Res.flow_exc]
    rw [cWhile_of (n := 1) (by rw [e]; nofun), e]
    rfl
  | ok c M1 =>
    simp only [Res.flow_ok]
    cases c with
    | false =>
      have e : whileN t b 1 ρ M = .nx ρ M1 := by simp only [whileN, ht, Res.flow_ok]; rfl
      rw [cWhile_of (n := 1) (by rw [e]; nofun), e]
      rfl
    | true =>
      simp only [if_true]
      have un : ∀ n, whileN t b (n + 1) ρ M = match b ρ M1 with
          | .nx ρ2 M2 => whileN t b n ρ2 M2
          | .ct ρ2 M2 => whileN t b n ρ2 M2
          | .bk ρ2 M2 => .nx ρ2 M2
          | o => o := fun n => by simp only [whileN, ht, Res.flow_ok, if_true]
      have key : ∀ ρ2 M2, (∀ n, whileN t b (n + 1) ρ M = whileN t b n ρ2 M2) → cWhile t b ρ M = cWhile t b ρ2 M2 := fun ρ2 M2 hu => by
        by_cases hx : ∃ n, whileN t b n ρ2 M2 ≠ .bad
        · obtain ⟨n, hn⟩ := hx
          rw [cWhile_of hn, cWhile_of (n := n + 1) (by rw [hu n]; exact hn), hu n]
        · have e1 : cWhile t b ρ2 M2 = .bad := by unfold cWhile; rw [dif_neg hx]
          have e2 : cWhile t b ρ M = .bad := by
            unfold cWhile
            rw [dif_neg]
            rintro ⟨n, h⟩
            cases n with
            | zero => exact h rfl
            | succ n => rw [hu n] at h; exact hx ⟨n, h⟩
          rw [e1, e2]
      cases hb : b ρ M1 with
      | nx ρ2 M2 => exact key ρ2 M2 fun n => by rw [un n, hb]
      | ct ρ2 M2 => exact key ρ2 M2 fun n => by rw [un n, hb]
      | bk ρ2 M2 =>
        have e : whileN t b 1 ρ M = .nx ρ2 M2 := by rw [un 0, hb]
        rw [cWhile_of (n := 1) (by rw [e]; nofun), e]
      | rt d M2 =>
        have e : whileN t b 1 ρ M = .rt d M2 := by rw [un 0, hb]
        rw [cWhile_of (n := 1) (by rw [e]; nofun), e]
      | exc c x M2 =>
        have e : whileN t b 1 ρ M = .exc c x M2 := by rw [un 0, hb]
        rw [cWhile_of (n := 1) (by rw [e]; nofun), e]
      | bad =>
        unfold cWhile
        rw [dif_neg]
        rintro ⟨n, h⟩
        cases n with
        | zero => exact h rfl
        | succ n => rw [un n, hb] at h; exact h rfl
section
variable {X : Cx} {E : XK}
theorem xs_while {c : Expr} {body : List Stmt} {t : SemT} {b : SemS} {pos : Pos} (hp : PassesOwn (model X.prog X.w) X.A X.env X.xe) (hc : XT X E c t) (hb : XSs X E body b) : XS X E (.While c body [] pos) (cWhile t b) := by
  refine ⟨fun k σ H ρ M re r0 D p => ⟨_, ps_while hp pt_wt pss_wss, ?_⟩⟩
  have hx : ∃ n, whileN t b n ρ M ≠ .bad := by
    by_cases h : ∃ n, whileN t b n ρ M ≠ .bad
    · exact h
    · unfold cWhile at p
      rw [dif_neg h] at p
      exact p.elim
  obtain ⟨n, hn⟩ := hx
  rw [cWhile_of hn] at p
  refine ⟨fun m σ' H' => ∃ k' ρ' M', Stp k H k' H' ∧ RelE X.K k' σ' ρ' ∧ Rel0 X.K k' H' M' ∧ PostS X E k' H' (whileN t b m ρ' M') D, ⟨n, k, ρ, M, Stp.refl _ _, re, r0, p⟩, ?_⟩
  rintro m σ' H' ⟨k', ρ', M', s', re', r', p'⟩
  cases m with
  | zero => exact p'.elim
  | succ m =>
    simp only [whileN] at p'
    refine hc.run k' σ' H' ρ' M' re' r' _ (PostF.bind p' fun d M1 k1 v H1 s1 r1 q1 p1 => ?_)
    cases q1
    cases d with
    | false => exact p1.go (re'.mono s1.le) r1
    | true =>
      simp only [if_true] at p1 ⊢
      refine ⟨fun σ2 H2 => ∃ k2 ρ2 M2, Stp k H k2 H2 ∧ RelE X.K k2 σ2 ρ2 ∧ Rel0 X.K k2 H2 M2 ∧ PostS X E k2 H2 (whileN t b m ρ2 M2) D, fun σ2 H2 q => ⟨m, Nat.lt_succ_self m, q⟩, ?_⟩
      refine hb.run k1 σ' H1 ρ' M1 (re'.mono s1.le) r1 _ ?_
      cases hbd : b ρ' M1 with
      | nx ρ2 M2 =>
        rw [hbd] at p1
        exact fun k4 σ4 H4 s4 re4 r4 => ⟨k4, ρ2, M2, (s'.trans s1).trans s4, re4, r4, PostF.step s4 p1⟩
      | ct ρ2 M2 =>
        rw [hbd] at p1
        exact fun k4 σ4 H4 s4 re4 r4 => ⟨k4, ρ2, M2, (s'.trans s1).trans s4, re4, r4, PostF.step s4 p1⟩
      | bk ρ2 M2 => rw [hbd] at p1; exact p1
      | rt d M2 => rw [hbd] at p1; exact p1
      | exc c x M2 => rw [hbd] at p1; exact p1
      | bad => rw [hbd] at p1; exact p1
end
end G
set_option maxHeartbeats 2000000
namespace G
open PySem PySem.Spec PyProof.Rows L2
/-! ### comprehensions -/
def Res.nox {α : Type} (r : Res α) : Res α := match r with
  | .ok a M => .ok a M
  | _ => .bad
@[simp] theorem Res.nox_ok {α : Type} {a : α} {M : Mem} : (Res.ok a M).nox = .ok a M := rfl
structure XTs (X : Cx) (E : XK) (es : List Expr) (f : SemT) : Prop where
  run : ∀ k σ H ρ M, RelE X.K k σ ρ → Rel0 X.K k H M → ∀ Q : Bool → Hp → Prop, PostT X E k H (f ρ M) Q → WTs X es σ H Q
def cYes : SemT := fun _ M => .ok true M
section
variable {X : Cx} {E : XK}
theorem xts_nil : XTs X E [] cYes := ⟨fun k σ H ρ M re r0 Q p => ⟨_, pts_nil, p.ret r0 rfl⟩⟩
theorem xts_one {c : Expr} {t : SemT} (h : XT X E c t) : XTs X E [c] t := ⟨fun k σ H ρ M re r0 Q p => ⟨_, pts_one pt_wt, h.run k σ H ρ M re r0 Q p⟩⟩
end
open Classical in
noncomputable def compL (gd : Mem → Prop) (g : TgE) (tt : SemT) (te : SemE) (ρ0 : Env) : List D → Mem → Res (List D)
  | [], M => if gd M then .ok [] M else .bad
  | d :: ds, M => if gd M then match g d ρ0 with
      | none => .bad
      | some ρ1 => (tt ρ1 M).nox.bind fun b M1 => if b then (te ρ1 M1).nox.bind fun y M2 => (compL gd g tt te ρ0 ds M2).bind fun ys M3 => .ok (y :: ys) M3 else compL gd g tt te ρ0 ds M1
    else .bad
noncomputable def cComp (it : SemI) (g : TgE) (tt : SemT) (te : SemE) (vs : List Nat) : SemN := fun ρ M => (it ρ M).bind fun s M1 => if s.ds.length ≤ 1000000 then compL s.gd g tt te (wipeD ρ vs) s.ds M1 else .bad
section
variable {X : Cx} {E : XK}
theorem PostN.pre {K : PySem.W.Frag} {mg : Str → Option Value} {k : Kn} {H : Hp} {Q : VK} {r : Res (List D)} {ys : List D} (h : PostN K mg E k H (r.bind fun zs M3 => .ok (ys ++ zs) M3) Q) : r ≠ .bad := by
  rintro rfl
  exact h
theorem nox_post {α β : Type} {K : PySem.W.Frag} {mg : Str → Option Value} {rep : Kn → α → β → Prop} {k : Kn} {H : Hp} {r : Res α} {Q : β → Hp → Prop} (h : ∀ a M1, r = .ok a M1 → Post K mg E0 rep k H r Q) (hb : ∃ a M1, r = .ok a M1) : Post K mg E0 rep k H r Q := by
  obtain ⟨a, M1, e⟩ := hb
  exact h a M1 e
theorem wipe_wipe (σ : L2.St) : ∀ vs : List Nat, wipe (wipe σ vs) vs = wipe σ vs := by
  have key : ∀ (vs us : List Nat), (∀ i ∈ us, i ∈ vs) → wipe (wipe σ us) vs = wipe σ vs := by
    intro vs us
    induction us with
    | nil => intro _; rfl
    | cons u us ih =>
      intro h
      show wipe ((wipe σ us).set u none) vs = wipe σ vs
      rw [wipe_set_mem (h u List.mem_cons_self)]
      exact ih fun i hi => h i (List.mem_cons_of_mem _ hi)
  exact fun vs => key vs vs fun _ h => h
/-- in every block of a comprehension -/
def AE (X : Cx) (scope : Scope) (e : Expr) : TE := fun σ H Q => ∀ (s : Shared) (Hx : Hp) (C : Addr) (cl : List (Str × Addr)) (fp : List Addr), WE (X.blk s Hx scope (compEnvC scope cl C X.env) fp) e σ H Q
def AG (X : Cx) (scope : Scope) (e : Expr) : TG := fun v σ H Q => ∀ (s : Shared) (Hx : Hp) (C : Addr) (cl : List (Str × Addr)) (fp : List Addr), WG (X.blk s Hx scope (compEnvC scope cl C X.env) fp) e v σ H Q
def ATs (X : Cx) (scope : Scope) (es : List Expr) : TT := fun σ H Q => ∀ (s : Shared) (Hx : Hp) (C : Addr) (cl : List (Str × Addr)) (fp : List Addr), WTs (X.blk s Hx scope (compEnvC scope cl C X.env) fp) es σ H Q
theorem pe_ae {scope : Scope} {e : Expr} (s : Shared) (H : Hp) (C : Addr) (cl : List (Str × Addr)) (fp : List Addr) : PE (X.blk s H scope (compEnvC scope cl C X.env) fp) e (AE X scope e) := ⟨fun pins s' σ H' Q I q => pe_we.run pins s' σ H' Q I (q s H C cl fp)⟩
theorem pg_ag {scope : Scope} {e : Expr} (s : Shared) (H : Hp) (C : Addr) (cl : List (Str × Addr)) (fp : List Addr) : PG (X.blk s H scope (compEnvC scope cl C X.env) fp) e (AG X scope e) := ⟨fun pins s' σ H' v u Q I r q => pg_wg.run pins s' σ H' v u Q I r (q s H C cl fp)⟩
theorem pts_ats {scope : Scope} {es : List Expr} (s : Shared) (H : Hp) (C : Addr) (cl : List (Str × Addr)) (fp : List Addr) : PTs (X.blk s H scope (compEnvC scope cl C X.env) fp) es (ATs X scope es) := ⟨fun pins s' σ H' Q I q => pts_wts.run pins s' σ H' Q I (q s H C cl fp)⟩
theorem lc_run {tg iter elt : Expr} {ifs : List Expr} {scope : Scope} {own : List (Str × Nat)} {is : List Nat} {f : SemI} {g : TgE} {tt : SemT} {te : SemE} (hc : X.calm = true) (hN : X.N.Nodup) (hi : XI X E tg iter f) (ok : BlkOk X.N X.env.scope scope own)
    (hg : ∀ (s : Shared) (H : Hp) (C : Addr) (cl : List (Str × Addr)) (fp : List Addr), XG (X.blk s H scope (compEnvC scope cl C X.env) fp) tg is g)
    (ht : ∀ (s : Shared) (H : Hp) (C : Addr) (cl : List (Str × Addr)) (fp : List Addr), XTs (X.blk s H scope (compEnvC scope cl C X.env) fp) E0 ifs tt)
    (he : ∀ (s : Shared) (H : Hp) (C : Addr) (cl : List (Str × Addr)) (fp : List Addr), XE (X.blk s H scope (compEnvC scope cl C X.env) fp) E0 elt te)
    (hin : ∀ i ∈ is, i ∈ own.map (·.2)) {k : Kn} {σ : L2.St} {H : Hp} {ρ : Env} {M : Mem} (re : RelE X.K k σ ρ) (r0 : Rel0 X.K k H M) {Q : VK} (p : PostN X.K X.mg E k H (cComp f g tt te (own.map (·.2)) ρ M) Q) :
    tLc (WI X tg iter) (AG X scope tg) (ATs X scope ifs) (AE X scope elt) (own.map (·.2)) σ H Q := by
  refine hi.run k σ H ρ M re r0 _ ?_
  unfold cComp at p
  cases hf : f ρ M with
  | bad => rw [hf] at p; exact p
  | exc c x M1 => rw [hf] at p; exact p
  | ok s M1 =>
    rw [hf] at p
    simp only [Res.bind_ok] at p
    by_cases hz : s.ds.length ≤ 1000000
    · rw [if_pos hz] at p
      intro k1 H1 J G Y s1 r1 wk hG hY Dl hD
      refine lc_it wk (fun i H' => ∃ k' M' acc ys, Stp k1 H1 k' H' ∧ Rel0 X.K k' H' M' ∧ H' Dl = some (.lst acc) ∧ k'.H Dl = none ∧ Dl ∉ k'.ι ∧ RepL X.K k' ys acc ∧ acc.length ≤ i ∧
        PostN X.K X.mg E k H ((compL s.gd g tt te (wipeD ρ (own.map (·.2))) (s.ds.drop i) M').bind fun zs M3 => .ok (ys ++ zs) M3) Q) ?_ ?_ ?_ ?_
      · refine ⟨k1, M1, [], [], Stp.new hD, r1.new hD, upd_same, (r1.free hD).1, (r1.free hD).2, RepL.nil, Nat.le_refl _, ?_⟩
        rw [List.drop_zero]
        have e : ((compL s.gd g tt te (wipeD ρ (own.map (·.2))) s.ds M1).bind fun zs M3 => Res.ok ([] ++ zs) M3) = compL s.gd g tt te (wipeD ρ (own.map (·.2))) s.ds M1 := by
          cases compL s.gd g tt te (wipeD ρ (own.map (·.2))) s.ds M1 <;> rfl
        rw [e]
        exact p
      · rintro i H' hi' ⟨k', M', acc, ys, s', r', e1, h1, h2, h3, h4, p'⟩
        refine hG k' H' M' s' r' ?_
        by_cases h : s.gd M'
        · exact h
        · exfalso
          refine PostN.pre p' ?_
          cases hd : s.ds.drop i with
          | nil => simp only [compL, if_neg h]
          | cons d r => simp only [compL, if_neg h]
      · rintro i x H' H2 hi' ⟨k', M', acc, ys, s', r', e1, h1, h2, h3, h4, p'⟩ y
        rw [List.drop_eq_getElem_cons hi'] at p'
        have hgd : s.gd M' := by
          by_cases h : s.gd M'
          · exact h
          · exact absurd (by simp only [compL, if_neg h]) (PostN.pre p')
        obtain ⟨k3, s3, r3, rv⟩ := hY i H' x H2 k' M' s.ds[i] s' r' hgd y (List.getElem?_eq_getElem hi')
        simp only [compL, if_pos hgd] at p'
        have hidden : ∀ {ka kb : Kn} {Ha Hb : Hp}, Stp ka Ha kb Hb → Ha Dl = some (.lst acc) → ka.H Dl = none → Dl ∉ ka.ι → Hb Dl = some (.lst acc) ∧ kb.H Dl = none ∧ Dl ∉ kb.ι := by
          intro ka kb Ha Hb sx q1 q2 q3
          refine ⟨sx.unt Dl _ q1 q3, ?_, fun hm => ?_⟩
          · cases q : kb.H Dl with
            | none => rfl
            | some o =>
              rcases sx.fr Dl o q with z | z
              · rw [q2] at z; cases z
              · rw [q1] at z; cases z
          · rcases sx.nw Dl hm with z | z
            · exact q3 z
            · rw [q1] at z; cases z
        obtain ⟨e3, h13, h23⟩ := hidden s3 e1 h1 h2
        cases hg1 : g s.ds[i] (wipeD ρ (own.map (·.2))) with
        | none => rw [hg1] at p'; exact absurd rfl (PostN.pre p')
        | some ρ1 =>
          rw [hg1] at p'
          simp only at p'
          have re3 : RelE X.K k3 (wipe σ (own.map (·.2))) (wipeD ρ (own.map (·.2))) := (re.mono ((s1.trans s').trans s3).le).wipe _
          have vs_in : ∀ i ∈ is, i ∈ own.map (·.2) := hin
          intro sB HB CB clB fpB
          refine (hg sB HB CB clB fpB).run k3 (wipe σ (own.map (·.2))) H2 _ M' s.ds[i] x re3 r3 rv ρ1 hg1 _ ?_
          intro σ2 re2 w2
          refine ⟨?_, ?_⟩
          · rw [w2 _ vs_in]
            exact wipe_wipe _ _
          · intro sC HC CC clC fpC
            cases htt : tt ρ1 M' with
            | bad => rw [htt] at p'; exact absurd rfl (PostN.pre p')
            | exc _ _ _ => rw [htt] at p'; exact absurd rfl (PostN.pre p')
            | ok b M2 =>
              rw [htt] at p'
              simp only [Res.nox_ok, Res.bind_ok] at p'
              refine (ht sC HC CC clC fpC).run k3 σ2 H2 ρ1 M' re2 r3 _ ?_
              rw [htt]
              intro k4 b' H4 s4 r4 eb
              cases eb
              obtain ⟨e4, h14, h24⟩ := hidden s4 e3 h13 h23
              cases b with
              | false =>
                simp only [Bool.false_eq_true, if_false] at p' ⊢
                exact ⟨k4, M2, acc, ys, (s'.trans s3).trans s4, r4, e4, h14, h24, h3.mono (s3.trans s4).le, Nat.le_succ_of_le h4, p'⟩
              | true =>
                simp only [if_true] at p' ⊢
                intro sD HD CD clD fpD
                cases hte : te ρ1 M2 with
                | bad => rw [hte] at p'; exact absurd rfl (PostN.pre p')
                | exc _ _ _ => rw [hte] at p'; exact absurd rfl (PostN.pre p')
                | ok y M3 =>
                  rw [hte] at p'
                  simp only [Res.nox_ok, Res.bind_ok] at p'
                  refine (he sD HD CD clD fpD).run k4 σ2 H4 ρ1 M2 (re2.mono s4.le) r4 _ ?_
                  rw [hte]
                  intro k5 yv H5 s5 r5 ry
                  obtain ⟨e5, h15, h25⟩ := hidden s5 e4 h14 h24
                  refine ⟨acc, e5, big (by omega), k5, M3, acc ++ [yv], ys ++ [y], ((s'.trans s3).trans (s4.trans s5)).hid hD, r5.hid h15 h25, upd_same, h15, h25,
                    (h3.mono ((s3.trans s4).trans s5).le).append (RepL.cons ry RepL.nil), by rw [List.length_append]; exact Nat.succ_le_succ h4, ?_⟩
                  have e : ((compL s.gd g tt te (wipeD ρ (own.map (·.2))) (s.ds.drop (i + 1)) M3).bind fun zs M4 => Res.ok ((ys ++ [y]) ++ zs) M4) =
                      (((compL s.gd g tt te (wipeD ρ (own.map (·.2))) (s.ds.drop (i + 1)) M3).bind fun zs M4 => Res.ok (y :: zs) M4).bind fun zs M4 => Res.ok (ys ++ zs) M4) := by
                    cases compL s.gd g tt te (wipeD ρ (own.map (·.2))) (s.ds.drop (i + 1)) M3 with
                    | ok zs M4 => simp only [Res.bind_ok, List.append_assoc, List.singleton_append]
                    | exc _ _ _ => rfl
                    | bad => rfl
                  rw [e]
                  exact p'
      · rintro H' ⟨k', M', acc, ys, s', r', e1, h1, h2, h3, h4, p'⟩
        rw [List.drop_length] at p'
        have hgd : s.gd M' := by
          by_cases h : s.gd M'
          · exact h
          · exact absurd (by simp only [compL, if_neg h]) (PostN.pre p')
        simp only [compL, if_pos hgd, Res.bind_ok, List.append_nil] at p'
        refine p' k' H' Dl acc (s1.trans s') r' e1 h1 h2 (s1.al Dl hD) h3
    · rw [if_neg hz] at p
      exact p.elim
theorem xn_comp {tg iter elt : Expr} {ifs : List Expr} {scope : Scope} {own : List (Str × Nat)} {is : List Nat} {f : SemI} {g : TgE} {tt : SemT} {te : SemE} {pos : Pos} (hc : X.calm = true) (hN : X.N.Nodup) (hi : XI X E tg iter f) (ok : BlkOk X.N X.env.scope scope own)
    (hg : ∀ (s : Shared) (H : Hp) (C : Addr) (cl : List (Str × Addr)) (fp : List Addr), XG (X.blk s H scope (compEnvC scope cl C X.env) fp) tg is g)
    (ht : ∀ (s : Shared) (H : Hp) (C : Addr) (cl : List (Str × Addr)) (fp : List Addr), XTs (X.blk s H scope (compEnvC scope cl C X.env) fp) E0 ifs tt)
    (he : ∀ (s : Shared) (H : Hp) (C : Addr) (cl : List (Str × Addr)) (fp : List Addr), XE (X.blk s H scope (compEnvC scope cl C X.env) fp) E0 elt te)
    (hin : ∀ i ∈ is, i ∈ own.map (·.2)) (hs : ∀ x, foldedSetIterable iter X.env x = pure x := by intro _; rfl) : XN X E (.ListComp elt [⟨tg, iter, ifs, 0⟩] scope pos) (cComp f g tt te (own.map (·.2))) :=
  ⟨fun k σ H ρ M re r0 Q p => ⟨_, pe_lc hc hN pi_wi ok pg_ag pts_ats pe_ae hs, lc_run hc hN hi ok hg ht he hin re r0 p⟩⟩
/-- y = [..] where the comprehension's store is made within its frame -/
theorem xs_setLc {i : Nat} {y : Str} {py : Pos} {spos : Pos} {tg iter elt : Expr} {ifs : List Expr} {scope : Scope} {own : List (Str × Nat)} {is : List Nat} {f : SemI} {g : TgE} {tt : SemT} {te : SemE} {pos : Pos} (hc : X.calm = true) (hN : X.N.Nodup)
    (hy : X.N[i]? = some y) (hyl : X.env.scope.names.lookup y = some .local) (hsw : swapsWith (.ListComp elt [⟨tg, iter, ifs, 0⟩] scope pos) (some (.Name y py)) spos.line X.env = pure true) (hi : XI X E tg iter f) (ok : BlkOk X.N X.env.scope scope own)
    (hg : ∀ (s : Shared) (H : Hp) (C : Addr) (cl : List (Str × Addr)) (fp : List Addr), XG (X.blk s H scope (compEnvC scope cl C X.env) fp) tg is g)
    (ht : ∀ (s : Shared) (H : Hp) (C : Addr) (cl : List (Str × Addr)) (fp : List Addr), XTs (X.blk s H scope (compEnvC scope cl C X.env) fp) E0 ifs tt)
    (he : ∀ (s : Shared) (H : Hp) (C : Addr) (cl : List (Str × Addr)) (fp : List Addr), XE (X.blk s H scope (compEnvC scope cl C X.env) fp) E0 elt te)
    (hin : ∀ i ∈ is, i ∈ own.map (·.2)) (hs : ∀ x, foldedSetIterable iter X.env x = pure x := by intro _; rfl) : XS X E (.Assign [.Name y py] (.ListComp elt [⟨tg, iter, ifs, 0⟩] scope pos) spos) (cAsg (cL (cComp f g tt te (own.map (·.2)))) (tgName i)) := by
  refine ⟨fun k σ H ρ M re r0 D p => ⟨_, ps_setLc hc hN hy hyl hsw pi_wi ok pg_ag pts_ats pe_ae hs, ?_⟩⟩
  refine lc_run hc hN hi ok hg ht he hin re r0 (Q := fun x H1 => gName i x σ H1 D.nx) ?_
  unfold cAsg cL at p
  cases hf : cComp f g tt te (own.map (·.2)) ρ M with
  | ok ds M1 =>
    rw [hf] at p
    intro k' H' a xs s r e1 h1 h2 h3 h4
    have rv : RepV X.K ⟨upd k'.H a (.lst xs), k'.ι⟩ (.lst ds) (.ref a) := by
      simp only [RepV]
      exact ⟨a, xs, rfl, SqL.of upd_same, h4.mono (kle_frz h1)⟩
    have sf := s.frz (o := .lst xs) h3 h1
    exact p ⟨upd k'.H a (.lst xs), k'.ι⟩ _ H' sf ((re.mono sf.le).set rv) (r.frz e1 h1 h2)
  | exc c x M1 => rw [hf] at p; exact p
  | bad => rw [hf] at p; exact p
/-- .. the list joins the store -/
theorem xs_setLcR {i : Nat} {y : Str} {py : Pos} {spos : Pos} {tg iter elt : Expr} {ifs : List Expr} {scope : Scope} {own : List (Str × Nat)} {is : List Nat} {f : SemI} {g : TgE} {tt : SemT} {te : SemE} {pos : Pos} (hc : X.calm = true) (hN : X.N.Nodup)
    (hy : X.N[i]? = some y) (hyl : X.env.scope.names.lookup y = some .local) (hsw : swapsWith (.ListComp elt [⟨tg, iter, ifs, 0⟩] scope pos) (some (.Name y py)) spos.line X.env = pure true) (hi : XI X E tg iter f) (ok : BlkOk X.N X.env.scope scope own)
    (hg : ∀ (s : Shared) (H : Hp) (C : Addr) (cl : List (Str × Addr)) (fp : List Addr), XG (X.blk s H scope (compEnvC scope cl C X.env) fp) tg is g)
    (ht : ∀ (s : Shared) (H : Hp) (C : Addr) (cl : List (Str × Addr)) (fp : List Addr), XTs (X.blk s H scope (compEnvC scope cl C X.env) fp) E0 ifs tt)
    (he : ∀ (s : Shared) (H : Hp) (C : Addr) (cl : List (Str × Addr)) (fp : List Addr), XE (X.blk s H scope (compEnvC scope cl C X.env) fp) E0 elt te)
    (hin : ∀ i ∈ is, i ∈ own.map (·.2)) (hs : ∀ x, foldedSetIterable iter X.env x = pure x := by intro _; rfl) : XS X E (.Assign [.Name y py] (.ListComp elt [⟨tg, iter, ifs, 0⟩] scope pos) spos) (cAsg (cR (cComp f g tt te (own.map (·.2)))) (tgName i)) := by
  refine ⟨fun k σ H ρ M re r0 D p => ⟨_, ps_setLc hc hN hy hyl hsw pi_wi ok pg_ag pts_ats pe_ae hs, ?_⟩⟩
  refine lc_run hc hN hi ok hg ht he hin re r0 (Q := fun x H1 => gName i x σ H1 D.nx) ?_
  unfold cAsg cR at p
  cases hf : cComp f g tt te (own.map (·.2)) ρ M with
  | ok ds M1 =>
    rw [hf] at p
    intro k' H' a xs s r e1 h1 h2 h3 h4
    have rv : RepV X.K ⟨k'.H, k'.ι ++ [a]⟩ (.ref M1.length) (.ref a) := by
      simp only [RepV]
      exact ⟨a, rfl, by rw [← r.len]; simp⟩
    have sf := s.join (p := a) h3
    exact p ⟨k'.H, k'.ι ++ [a]⟩ _ H' sf ((re.mono sf.le).set rv) (r.join h1 h2 ⟨xs, e1, h4⟩)
  | exc c x M1 => rw [hf] at p; exact p
  | bad => rw [hf] at p; exact p
end
end G
set_option maxHeartbeats 2000000
namespace G
open PySem PySem.Spec PyProof.Rows L2
/-! ### behind a call: what only the callee knew is forgotten -/
mutual
def D.lt (n : Nat) : D → Bool
  | .tup ds => D.ltL n ds
  | .lst ds => D.ltL n ds
  | .dic _ ds => D.ltL n ds
  | .ref i => decide (i < n)
  | _ => true
def D.ltL (n : Nat) : List D → Bool
  | [] => true
  | d :: ds => D.lt n d && D.ltL n ds
end
def O.lt (n : Nat) : O → Bool
  | .lst ds => D.ltL n ds
  | .dic kvs => kvs.all fun p => p.2.lt n
def xLt (n : Nat) : Option (Str × D) → Bool
  | none => true
  | some (_, d) => d.lt n
/-- a list of the callee's own is handed back as it is now -/
def icy (n : Nat) (M : Mem) (d : D) : D := match d with
  | .ref i => if n ≤ i then match M[i]? with
      | some (.lst ds) => .lst ds
      | _ => d
    else d
  | _ => d
def gc (n : Nat) (r : Res D) : Res D := match r with
  | .ok d M => if (icy n M d).lt n && (M.take n).all (O.lt n) then .ok (icy n M d) (M.take n) else .ok d M
  | .exc c x M => if xLt n x && (M.take n).all (O.lt n) then .exc c x (M.take n) else .exc c x M
  | .bad => .bad
def fin (f : Flow) : Res D := match f with
  | .nx _ M => .ok .non M
  | .rt d M => .ok d M
  | .exc c x M => .exc c x M
  | _ => .bad
def startD (N : Nat) (ds : List D) : Env := ds.map some ++ List.replicate (N - ds.length) none
def runF (n N : Nat) (body : SemS) : List D → Mem → Res D := fun ds M => if ds.length = n then gc M.length (fin (body (startD N ds) M)) else .bad
/-- .. all is kept -/
def runK (n N : Nat) (body : SemS) : List D → Mem → Res D := fun ds M => if ds.length = n then fin (body (startD N ds) M) else .bad
section
variable {K : PySem.W.Frag} {k k' : Kn} {H H' : Hp} {M M' : Mem} {H1 : Hp} {n : Nat}
mutual
theorem RepV.cut (e : Same k.H H1) : ∀ {d : D} {v : V}, d.lt n = true → RepV K k d v → RepV K ⟨H1, k.ι.take n⟩ d v
  | .non, _, _, h => by simpa only [RepV] using h
  | .bl _, _, _, h => by simpa only [RepV] using h
  | .int _, _, _, h => by simpa only [RepV] using h
  | .str _, _, _, h => by simpa only [RepV] using h
  | .tup ds, _, l, h => by
    simp only [RepV] at h ⊢
    simp only [D.lt] at l
    obtain ⟨a, xs, e1, h1, h2⟩ := h
    exact ⟨a, xs, e1, seqT_same e h1, RepL.cut e l h2⟩
  | .lst ds, _, l, h => by
    simp only [RepV] at h ⊢
    simp only [D.lt] at l
    obtain ⟨a, xs, e1, h1, h2⟩ := h
    exact ⟨a, xs, e1, e.seq h1, RepL.cut e l h2⟩
  | .dic ks ds, _, l, h => by
    simp only [RepV] at h ⊢
    simp only [D.lt] at l
    obtain ⟨a, xs, e1, h1, hl, h2⟩ := h
    exact ⟨a, xs, e1, e _ _ h1, hl, RepL.cut e l h2⟩
  | .ref i, _, l, h => by
    simp only [RepV] at h ⊢
    simp only [D.lt, decide_eq_true_eq] at l
    obtain ⟨a, e1, h1⟩ := h
    exact ⟨a, e1, by rw [List.getElem?_take_of_lt l]; exact h1⟩
theorem RepL.cut (e : Same k.H H1) : ∀ {ds : List D} {xs : List V}, D.ltL n ds = true → RepL K k ds xs → RepL K ⟨H1, k.ι.take n⟩ ds xs
  | [], _, _, h => by simpa only [RepL] using h
  | d :: ds, _, l, h => by
    simp only [RepL] at h ⊢
    simp only [D.ltL, Bool.and_eq_true] at l
    obtain ⟨x, r, e1, h1, h2⟩ := h
    exact ⟨x, r, e1, RepV.cut e l.1 h1, RepL.cut e l.2 h2⟩
end
theorem RepKV.cut (e : Same k.H H1) : ∀ {kvs : List (Key × D)} {kvs' : List (Key × V)}, (kvs.all fun p => p.2.lt n) = true → RepKV K k kvs kvs' → RepKV K ⟨H1, k.ι.take n⟩ kvs kvs'
  | _, _, _, .nil => .nil
  | _, _, l, .cons r t => by
    rw [List.all_cons, Bool.and_eq_true] at l
    exact .cons ⟨r.1, r.2.cut e l.1⟩ (RepKV.cut e l.2 t)
theorem RepO.cut (e : Same k.H H1) {a : Addr} {o : O} (l : o.lt n = true) (h : RepO K k H a o) : RepO K ⟨H1, k.ι.take n⟩ H a o := by
  cases o with
  | lst ds => obtain ⟨xs, e1, h2⟩ := h; exact ⟨xs, e1, h2.cut e l⟩
  | dic kvs => obtain ⟨xs, e1, h2⟩ := h; exact ⟨xs, e1, RepKV.cut e l h2⟩
/-- the store cut down to its first n objects -/
theorem Rel0.cut (r : Rel0 K k H M) (e : Same k.H H1) (e2 : Same H1 H) (f : ∀ a ∈ k.ι.take n, H1 a = none) (l : (M.take n).all (O.lt n) = true) : Rel0 K ⟨H1, k.ι.take n⟩ H (M.take n) where
  ex := e2
  len := by simp [r.len]
  nod := r.nod.sublist (List.take_sublist _ _)
  fr := f
  obj := fun i a o e3 e4 => by
    have hi : i < n := by
      have h1 := (List.getElem?_eq_some_iff.mp e4).1
      rw [List.length_take] at h1
      omega
    have hm := List.mem_of_getElem? e4
    rw [show (Kn.mk H1 (k.ι.take n)).ι = k.ι.take n from rfl, List.getElem?_take_of_lt hi] at e3
    rw [List.getElem?_take_of_lt hi] at e4
    exact (r.obj i a o e3 e4).cut e (List.all_eq_true.mp l o hm)
theorem pre_take {k k' : Kn} (h : k.ι <+: k'.ι) : k'.ι.take k.ι.length = k.ι := by
  obtain ⟨t, e⟩ := h
  rw [← e, List.take_left]
theorem same_upd0 {H : Hp} {p : Addr} {o : HO} (h : H p = none) : Same H (upd H p o) := fun b x e => by
  rw [upd_ne (ne_of_none e h)]
  exact e
section
variable {mg : Str → Option Value} {E : XK}
/-- what only the callee knew is forgotten -/
theorem gc_post {Q : VK} {r : Res D} (r0 : Rel0 K k H M) (p : Post K mg E (RepV K) k H (gc M.length r) Q) : Post K mg E (RepV K) k H r Q := by
  cases r with
  | bad => exact p
  | exc c x M' =>
    intro k' H' C od s r' xr
    simp only [gc] at p
    by_cases hb : (xLt M.length x && (M'.take M.length).all (O.lt M.length)) = true
    · rw [if_pos hb] at p
      rw [Bool.and_eq_true] at hb
      have hn : M.length = k.ι.length := r0.len.symm
      have et : k'.ι.take M.length = k.ι := by rw [hn]; exact pre_take s.pre
      refine p ⟨k'.H, k'.ι.take M.length⟩ H' C od ?_ (r'.cut (Same.refl _) r'.ex (fun a ha => r'.fr a (List.mem_of_mem_take ha)) hb.2) ?_
      · exact ⟨s.same, by rw [et]; exact List.prefix_refl _, s.fr, fun a ha => .inl (by rw [et] at ha; exact ha), s.unt, s.al⟩
      · refine ⟨xr.1, ?_⟩
        have x2 := xr.2
        cases x with
        | none => exact x2
        | some fd =>
          obtain ⟨f, d⟩ := fd
          obtain ⟨a, v, e1, e2, rv⟩ := x2
          exact ⟨a, v, e1, e2, rv.cut (Same.refl _) hb.1⟩
    · rw [if_neg hb] at p
      exact p k' H' C od s r' xr
  | ok d M' =>
    intro k' v H' s r' rv
    simp only [gc] at p
    by_cases hb : ((icy M.length M' d).lt M.length && (M'.take M.length).all (O.lt M.length)) = true
    · rw [if_pos hb] at p
      rw [Bool.and_eq_true] at hb
      have hn : M.length = k.ι.length := r0.len.symm
      have et : k'.ι.take M.length = k.ι := by rw [hn]; exact pre_take s.pre
      have plain : icy M.length M' d = d → Q v H' := fun ed => by
        rw [ed] at p hb
        refine p ⟨k'.H, k'.ι.take M.length⟩ v H' ?_ (r'.cut (Same.refl _) r'.ex (fun a ha => r'.fr a (List.mem_of_mem_take ha)) hb.2) (rv.cut (Same.refl _) hb.1)
        exact ⟨s.same, by rw [et]; exact List.prefix_refl _, s.fr, fun a ha => .inl (by rw [et] at ha; exact ha), s.unt, s.al⟩
      by_cases hd : ∃ i ds, d = .ref i ∧ M.length ≤ i ∧ M'[i]? = some (.lst ds)
      · obtain ⟨i, ds, rfl, hi, hM⟩ := hd
        have ei : icy M.length M' (.ref i) = .lst ds := by simp only [icy, if_pos hi, hM]
        rw [ei] at p hb
        simp only [RepV] at rv
        obtain ⟨a, rfl, ha⟩ := rv
        obtain ⟨xs, e1, rl⟩ := r'.obj i a _ ha hM
        have ka : k'.H a = none := r'.fr a (List.mem_of_getElem? ha)
        have hna : a ∉ k'.ι.take M.length := fun hm => by
          obtain ⟨j, hj, ej⟩ := List.mem_iff_getElem.mp hm
          rw [List.length_take] at hj
          have ej2 : k'.ι[j]? = some a := by
            rw [List.getElem_take] at ej
            rw [List.getElem?_eq_getElem (by omega), ej]
          have := nd_ix r'.nod ej2 ha
          omega
        have hHa : H a = none := by
          rcases s.nw a (List.mem_of_getElem? ha) with z | z
          · rw [← et] at z
            exact absurd z hna
          · exact z
        have e01 : Same k'.H (upd k'.H a (.lst xs)) := same_upd0 ka
        refine p ⟨upd k'.H a (.lst xs), k'.ι.take M.length⟩ (.ref a) H' ?_ (r'.cut e01 (fun b u hb' => ?_) (fun b hb' => ?_) hb.2) ?_
        · refine ⟨s.same.trans e01, by rw [et]; exact List.prefix_refl _, fun b u hu => ?_, fun b hb' => .inl (by rw [et] at hb'; exact hb'), s.unt, s.al⟩
          by_cases hba : b = a
          · rw [hba]; exact .inr hHa
          · rw [show (Kn.mk (upd k'.H a (.lst xs)) (k'.ι.take M.length)).H = upd k'.H a (.lst xs) from rfl, upd_ne hba] at hu
            exact s.fr b u hu
        · by_cases hba : b = a
          · rw [hba, upd_same] at hb'
            rw [hba, e1, ← hb']
          · rw [upd_ne hba] at hb'
            exact r'.ex b u hb'
        · rw [upd_ne fun z => hna (by rw [← z]; exact hb')]
          exact r'.fr b (List.mem_of_mem_take hb')
        · have hl := hb.1
          simp only [D.lt] at hl
          simp only [RepV]
          exact ⟨a, xs, rfl, SqL.of upd_same, rl.cut e01 hl⟩
      · refine plain ?_
        unfold icy
        split
        · rename_i i
          split
          · rename_i hi
            split
            · rename_i ds hM
              exact absurd ⟨i, ds, rfl, hi, hM⟩ hd
            · rfl
          · rfl
        · rfl
    · rw [if_neg hb] at p
      exact p k' v H' s r' rv
end
end
/-! ### defs -/
/-- what a def promises: it does what m does -/
def spF (K : PySem.W.Frag) (mg : Str → Option Value) (m : List D → Mem → Res D) : Sp := fun vs H Q E => ∃ k ds M, Rel0 K k H M ∧ RepL K k ds vs ∧ Post K mg E (RepV K) k H (m ds M) Q
/-- where a body runs -/
structure CtxOk (X : Cx) (E : XK) (j : Nat) : Prop where
  calm : X.calm = true
  nd : X.N.Nodup
  room : Room j X.A
  pass : Passes (L2.CX X.prog X.w) X E
  gd : X.A.guards = some []
structure FnG (P : Program) (w : World) (K : PySem.W.Frag) (mg : Str → Option Value) (base : Heap) (x : Str) (f : Addr) (fd : FuncData) (ps : List Str) (j : Nat) (m : List D → Mem → Res D) : Prop where
  hm : mg x = some (.ref f)
  hk : PySem.W.keepIn K (.ref f) = true
  ok : FnOkG P w K mg base (L2.CX P w) j f fd ps (spF K mg m)
section
variable {P : Program} {w : World} {K : PySem.W.Frag} {mg : Str → Option Value} {base : Heap}
theorem RepL.startD {k : Kn} {N : List Str} {ds : List D} {vs : List V} (r : RepL K k ds vs) : RelE K k (L2.start N vs) (G.startD N.length ds) := by
  have hl := r.length
  refine ⟨?_, fun i d h => ?_⟩
  · simp [L2.start, G.startD, hl]
  · have hi : i < ds.length := by
      by_cases hi : i < ds.length
      · exact hi
      · unfold G.startD at h
        rw [List.getElem?_append_right (by simpa using hi), List.getElem?_replicate] at h
        split at h <;> cases h
    unfold G.startD at h
    rw [List.getElem?_append_left (by simpa using hi), List.getElem?_map] at h
    cases e : ds[i]? with
    | none => rw [e] at h; cases h
    | some d' =>
      rw [e] at h
      cases h
      obtain ⟨x, hx, rv⟩ := r.get e
      refine ⟨x, ?_, rv⟩
      unfold L2.start
      rw [List.getElem?_append_left (by rw [List.length_map, hl]; exact hi), List.getElem?_map, hx]
      rfl
theorem runF_len {n N : Nat} {body : SemS} {ds : List D} {M : Mem} (h : runF n N body ds M ≠ .bad) : ds.length = n := by
  unfold runF at h
  by_cases e : ds.length = n
  · exact e
  · rw [if_neg e] at h
    exact absurd rfl h
theorem fin_post {E : XK} {k : Kn} {H : Hp} {Q : VK} {f : Flow} (p : Post K mg E (RepV K) k H (fin f) Q) : PostF K mg E k H f { nx := fun _ H' => Q .non H', rt := Q } := by
  cases f with
  | nx ρ M => exact fun k' σ' H' s re r => p k' .non H' s r (by simp only [RepV])
  | rt d M => exact p
  | bk ρ M => exact p.elim
  | ct ρ M => exact p.elim
  | exc c x M => exact p
  | bad => exact p.elim
theorem ctx_of {N : List Str} {qual : Str} {scope : Scope} {f : Addr} {cd : Value} {A : Around} {outer : List PySem.Env} {s : Shared} {H : Hp} {E : XK} {j : Nat} (nd : N.Nodup) (hr : Room j (A.deeper (envOfC qual scope s.heap.objs.size f cd))) (hg : A.guards = some []) :
    CtxOk (cxOf (L2.CX P w) P w K mg base N qual scope f cd A outer s H E) E j :=
  ⟨rfl, nd, hr, passes_call (takes_of rfl rfl rfl rfl) fun _ _ _ _ h => h, hg⟩
theorem own_of {N : List Str} {qual : Str} {scope : Scope} {f : Addr} {cd : Value} {A : Around} {outer : List PySem.Env} {s : Shared} {H : Hp} {E : XK} :
    PassesOwn (model P w) (cxOf (L2.CX P w) P w K mg base N qual scope f cd A outer s H E).A (cxOf (L2.CX P w) P w K mg base N qual scope f cd A outer s H E).env (cxOf (L2.CX P w) P w K mg base N qual scope f cd A outer s H E).xe := passes_of rfl
/-- THE RULE for a def -/
theorem fn_okB {x qual : Str} {params : Arguments} {stmts : List Stmt} {scope : Scope} {dV kV doc pm cdv ct oc : Value} {an od : Option Addr} {osl : Array (Option Value)} {f : Addr} {N ps : List Str} {j : Nat} {body : SemS}
    (lk : K.lookup f = some ⟨oc, od, .func (PySem.W.fnOf x qual params stmts scope dV kV doc pm an cdv ct), osl⟩) (hcd : PySem.W.codeIn K cdv qual = true) (S : FnScope N ps scope) (hm : mg x = some (.ref f)) (hk : PySem.W.keepIn K (.ref f) = true)
    (h : ∀ (cdv : Value) (A : Around) (outer : List PySem.Env) (s : Shared) (H : Hp) (E : XK), CtxOk (cxOf (L2.CX P w) P w K mg base N qual scope f cdv A outer s H E) E j →
      XSs (cxOf (L2.CX P w) P w K mg base N qual scope f cdv A outer s H E) E stmts body) : FnG P w K mg base x f (PySem.W.fnOf x qual params stmts scope dV kV doc pm an cdv ct) ps (j + 1) (runF ps.length N.length body) := by
  refine ⟨hm, hk, fnG_of lk hcd S (fun vs H Q E q => ?_) fun A outer s H vs Q E hr hg q => ?_⟩
  · obtain ⟨k, ds, M, r0, rl, p⟩ := q
    rw [rl.length]
    refine runF_len (N := N.length) (body := body) (M := M) fun hbad => ?_
    rw [hbad] at p
    exact p
  · obtain ⟨k, ds, M, r0, rl, p⟩ := q
    have hl : ds.length = ps.length := runF_len (N := N.length) (body := body) (M := M) fun hbad => by
      rw [hbad] at p
      exact p
    refine ⟨_, pss_wss, (h cdv A outer s H E (ctx_of S.nd hr hg)).run k _ H (startD N.length ds) M (RepL.startD rl) r0 _ ?_⟩
    refine fin_post (K := K) (mg := mg) ?_
    simp only [runF, if_pos hl] at p
    exact gc_post r0 p
theorem fn_ok {x qual : Str} {st : Stmt} {f : Addr} {fd : FuncData} {N ps : List Str} {j : Nat} {body : SemS} (F : Fun K x qual st f fd) (S : FnScope N ps (defScope st)) (hm : mg x = some (.ref f))
    (h : ∀ (cdv : Value) (A : Around) (outer : List PySem.Env) (s : Shared) (H : Hp) (E : XK), CtxOk (cxOf (L2.CX P w) P w K mg base N qual (defScope st) f cdv A outer s H E) E j →
      XSs (cxOf (L2.CX P w) P w K mg base N qual (defScope st) f cdv A outer s H E) E (defBody st) body) : FnG P w K mg base x f fd ps (j + 1) (runF ps.length N.length body) := by
  obtain ⟨oc, od, kV, doc, pm, an, cdv, ct, osl, rfl, lk, hcd⟩ := F.ex
  exact fn_okB lk hcd S hm F.kp h
theorem fn_okD {x qual : Str} {params : Arguments} {stmts : List Stmt} {scope : Scope} {dvs : List V} {kws : List (Str × V)} {f : Addr} {fd : FuncData} {N ps : List Str} {j : Nat} {body : SemS} (F : FunD K x qual params stmts scope dvs kws f fd) (S : FnScope N ps scope) (hm : mg x = some (.ref f))
    (h : ∀ (cdv : Value) (A : Around) (outer : List PySem.Env) (s : Shared) (H : Hp) (E : XK), CtxOk (cxOf (L2.CX P w) P w K mg base N qual scope f cdv A outer s H E) E j →
      XSs (cxOf (L2.CX P w) P w K mg base N qual scope f cdv A outer s H E) E stmts body) : FnG P w K mg base x f fd ps (j + 1) (runF ps.length N.length body) := by
  obtain ⟨oc, od, dV, kV, doc, pm, an, cdv, ct, osl, rfl, lk, hcd, _, _⟩ := F.ex
  exact fn_okB lk hcd S hm F.kp h
/-- .. by its value -/
theorem FnG.as {x : Str} {f : Addr} {fd : FuncData} {ps : List Str} {j : Nat} {m m' : List D → Mem → Res D} (Fg : FnG P w K mg base x f fd ps j m) (h : ∀ ds M, m' ds M ≠ .bad → m ds M = m' ds M) : FnG P w K mg base x f fd ps j m' := by
  refine ⟨Fg.hm, Fg.hk, Fg.ok.imp fun vs H Q E q => ?_⟩
  obtain ⟨k, ds, M, r0, rl, p⟩ := q
  refine ⟨k, ds, M, r0, rl, ?_⟩
  rw [h ds M fun hbad => by rw [hbad] at p; exact p]
  exact p
theorem FnG.mono {x : Str} {f : Addr} {fd : FuncData} {ps : List Str} {i j : Nat} {m : List D → Mem → Res D} (Fg : FnG P w K mg base x f fd ps i m) (h : i ≤ j) : FnG P w K mg base x f fd ps j m := ⟨Fg.hm, Fg.hk, Fg.ok.mono h⟩
end
/-! ### calls -/
def cCall (m : List D → Mem → Res D) (g : SemA) : SemE := fun ρ M => (g ρ M).bind m
section
variable {X : Cx} {E : XK} {x : Str} {i j n : Nat} {m : List D → Mem → Res D} {e : Expr} {es : List Expr} {g : SemA} {p pos : Pos}
theorem xe_call {f : Addr} {fd : FuncData} {ps : List Str} (Fg : FnG X.prog X.w X.K X.mg X.base x f fd ps i m) (hb : Binds X.K fd ps []) (C : CtxOk X E j) (hij : i ≤ j) (hg : Gl X x) (ha : XA X E (e :: es) g) (hdb : (x == ("__debug__" : Str)) = false := by decide)
    (he : starEach (e :: es) X.env = (false, eval e X.env) :: starEach es X.env := by rfl) (hpl : (backTo pos (starEach es X.env)).any (·.1) = false := by rfl) : XE X E (.Call (.Name x p) (e :: es) [] pos) (cCall m g) := by
  refine ⟨fun k σ H ρ M re r0 Q q => ⟨_, pe_callG Fg.ok (C.room.mono hij) C.gd hg Fg.hm Fg.hk hb .nil C.pass pa_wa hdb he hpl, ?_⟩⟩
  refine ha.run k σ H ρ M re r0 _ (Post.bind q fun ds M1 k1 vs H1 s1 r1 q1 p1 => ?_)
  rw [List.append_nil]
  exact ⟨k1, ds, M1, r1, q1, p1⟩
theorem xe_call0 {f : Addr} {fd : FuncData} {ps : List Str} (Fg : FnG X.prog X.w X.K X.mg X.base x f fd ps i m) (hb : Binds X.K fd ps []) (C : CtxOk X E j) (hij : i ≤ j) (hg : Gl X x) (hdb : (x == ("__debug__" : Str)) = false := by decide) : XE X E (.Call (.Name x p) [] [] pos) (cCall m cNil) := by
  refine ⟨fun k σ H ρ M re r0 Q q => ⟨_, pe_call0G Fg.ok (C.room.mono hij) C.gd hg Fg.hm Fg.hk hb .nil C.pass hdb, ?_⟩⟩
  exact ⟨k, [], M, r0, RepL.nil, q⟩
/-- defaults fill up -/
def cCallD (m : List D → Mem → Res D) (dvs : List D) (g : SemA) : SemE := fun ρ M => (g ρ M).bind fun ds M1 => m (ds ++ dvs) M1
theorem xe_callD {f : Addr} {fd : FuncData} {ps : List Str} {dds : List D} {dvs : List V} {dv : List Value} (Fg : FnG X.prog X.w X.K X.mg X.base x f fd ps i m) (hv : Vals dvs dv) (hb : Binds X.K fd ps dv) (hd : ∀ k, RepL X.K k dds dvs) (C : CtxOk X E j) (hij : i ≤ j) (hg : Gl X x) (ha : XA X E (e :: es) g) (hdb : (x == ("__debug__" : Str)) = false := by decide)
    (he : starEach (e :: es) X.env = (false, eval e X.env) :: starEach es X.env := by rfl) (hpl : (backTo pos (starEach es X.env)).any (·.1) = false := by rfl) : XE X E (.Call (.Name x p) (e :: es) [] pos) (cCallD m dds g) := by
  refine ⟨fun k σ H ρ M re r0 Q q => ⟨_, pe_callG Fg.ok (C.room.mono hij) C.gd hg Fg.hm Fg.hk hb hv C.pass pa_wa hdb he hpl, ?_⟩⟩
  refine ha.run k σ H ρ M re r0 _ (Post.bind q fun ds M1 k1 vs H1 s1 r1 q1 p1 => ?_)
  exact ⟨k1, ds ++ dds, M1, r1, q1.append (hd k1), p1⟩
/-- in a comprehension's block -/
theorem CtxOk.blk {s : Shared} {H : Hp} {scope : Scope} {ce : PySem.Env} {fp : List Addr} (C : CtxOk X E j) : CtxOk (X.blk s H scope ce fp) E0 j := ⟨C.calm, C.nd, C.room, passL, C.gd⟩
/-- a built-in by its name -/
def CallS (X : Cx) (E : XK) (f : Value) (g : List D → Mem → Res D) : Prop :=
  ∀ k H M ds vs, Rel0 X.K k H M → RepL X.K k ds vs → ∀ Q : VK, PostE X E k H (g ds M) Q → WCall X f vs H Q
theorem xe_callB {id : String} {m : List D → Mem → Res D} (hc : CallS X E (.builtin id) m) (hg : Gl X x) (hm : X.mg x = none) (hv : bootBuiltins x = some (.builtin id)) (ha : XA X E (e :: es) g) (hn : x ≠ "__name__" := by decide) (hdb : (x == ("__debug__" : Str)) = false := by decide)
    (he : starEach (e :: es) X.env = (false, eval e X.env) :: starEach es X.env := by rfl) (hpl : (backTo pos (starEach es X.env)).any (·.1) = false := by rfl) : XE X E (.Call (.Name x p) (e :: es) [] pos) (cCall m g) := by
  refine ⟨fun k σ H ρ M re r0 Q q => ⟨_, pe_callB call_wcall hg hm hv pa_wa hn hdb he hpl, ?_⟩⟩
  refine ha.run k σ H ρ M re r0 _ (Post.bind q fun ds M1 k1 vs H1 s1 r1 q1 p1 => ?_)
  exact hc k1 H1 M1 ds vs r1 q1 Q p1
theorem xe_callTy {id : String} {m : List D → Mem → Res D} (hc : CallS X E (.type id) m) (hg : Gl X x) (hm : X.mg x = none) (hv : bootBuiltins x = some (.type id)) (ha : XA X E (e :: es) g) (hn : x ≠ "__name__" := by decide) (hdb : (x == ("__debug__" : Str)) = false := by decide)
    (he : starEach (e :: es) X.env = (false, eval e X.env) :: starEach es X.env := by rfl) (hpl : (backTo pos (starEach es X.env)).any (·.1) = false := by rfl) : XE X E (.Call (.Name x p) (e :: es) [] pos) (cCall m g) := by
  refine ⟨fun k σ H ρ M re r0 Q q => ⟨_, pe_callTy call_wcall hg hm hv pa_wa hn hdb he hpl, ?_⟩⟩
  refine ha.run k σ H ρ M re r0 _ (Post.bind q fun ds M1 k1 vs H1 s1 r1 q1 p1 => ?_)
  exact hc k1 H1 M1 ds vs r1 q1 Q p1
/-- .. that makes a new list -/
def CallN (X : Cx) (E : XK) (f : Value) (g : List D → Mem → Res (List D)) : Prop :=
  ∀ k H M ds vs, Rel0 X.K k H M → RepL X.K k ds vs → ∀ Q : VK, PostN X.K X.mg E k H (g ds M) Q → WCall X f vs H Q
def cCallN (m : List D → Mem → Res (List D)) (g : SemA) : SemN := fun ρ M => (g ρ M).bind m
theorem xn_callB {id : String} {m : List D → Mem → Res (List D)} (hc : CallN X E (.builtin id) m) (hg : Gl X x) (hm : X.mg x = none) (hv : bootBuiltins x = some (.builtin id)) (ha : XA X E (e :: es) g) (hn : x ≠ "__name__" := by decide) (hdb : (x == ("__debug__" : Str)) = false := by decide)
    (he : starEach (e :: es) X.env = (false, eval e X.env) :: starEach es X.env := by rfl) (hpl : (backTo pos (starEach es X.env)).any (·.1) = false := by rfl) : XN X E (.Call (.Name x p) (e :: es) [] pos) (cCallN m g) := by
  refine ⟨fun k σ H ρ M re r0 Q q => ⟨_, pe_callB call_wcall hg hm hv pa_wa hn hdb he hpl, ?_⟩⟩
  refine ha.run k σ H ρ M re r0 _ (PostN.bind q fun ds M1 k1 vs H1 s1 r1 q1 p1 => ?_)
  exact hc k1 H1 M1 ds vs r1 q1 Q p1
theorem xn_callTy {id : String} {m : List D → Mem → Res (List D)} (hc : CallN X E (.type id) m) (hg : Gl X x) (hm : X.mg x = none) (hv : bootBuiltins x = some (.type id)) (ha : XA X E (e :: es) g) (hn : x ≠ "__name__" := by decide) (hdb : (x == ("__debug__" : Str)) = false := by decide)
    (he : starEach (e :: es) X.env = (false, eval e X.env) :: starEach es X.env := by rfl) (hpl : (backTo pos (starEach es X.env)).any (·.1) = false := by rfl) : XN X E (.Call (.Name x p) (e :: es) [] pos) (cCallN m g) := by
  refine ⟨fun k σ H ρ M re r0 Q q => ⟨_, pe_callTy call_wcall hg hm hv pa_wa hn hdb he hpl, ?_⟩⟩
  refine ha.run k σ H ρ M re r0 _ (PostN.bind q fun ds M1 k1 vs H1 s1 r1 q1 p1 => ?_)
  exact hc k1 H1 M1 ds vs r1 q1 Q p1
end
end G
set_option maxHeartbeats 2000000
namespace G
open PySem PySem.Spec PyProof.Rows L2
/-! ### data of the library behind plain data -/
mutual
def D.toP : D → Option PyData
  | .non => some .none
  | .bl b => some (.bool b)
  | .int i => some (.int i)
  | .str s => some (.str s)
  | .tup ds => (D.toPL ds).map .tuple
  | .lst ds => (D.toPL ds).map .list
  | _ => none
def D.toPL : List D → Option (List PyData)
  | [] => some []
  | d :: ds => (D.toP d).bind fun p => (D.toPL ds).map fun ps => p :: ps
end
/-- the items of a list, known or of the store -/
def lstOf (M : Mem) : D → Option (List D)
  | .lst ds => some ds
  | .ref n => match M[n]? with
    | some (.lst ds) => some ds
    | _ => none
  | _ => none
def seqOf (M : Mem) : D → Option (List D)
  | .tup ds => some ds
  | d => lstOf M d
def toPM (M : Mem) (d : D) : Option PyData := match d with
  | .ref n => match M[n]? with
    | some (.lst ds) => (D.toPL ds).map .list
    | _ => none
  | d => D.toP d
section
variable {K : PySem.W.Frag} {k : Kn} {H : Hp} {M : Mem}
mutual
theorem RepV.dp (e : Same k.H H) : ∀ {d : D} {v : V} {p : PyData}, d.toP = some p → RepV K k d v → Dp K H v p
  | .non, _, _, h, r => by
    simp only [RepV] at r; simp only [D.toP, Option.some.injEq] at h; subst r h; exact .non
  | .bl b, _, _, h, r => by
    simp only [RepV] at r; simp only [D.toP, Option.some.injEq] at h; subst r h; exact .bl b
  | .int i, _, _, h, r => by
    simp only [RepV] at r; simp only [D.toP, Option.some.injEq] at h; subst r h; exact .int i
  | .str s, _, _, h, r => by
    simp only [RepV] at r; simp only [D.toP, Option.some.injEq] at h; subst r h; exact .str s
  | .tup ds, _, _, h, r => by
    simp only [RepV] at r
    simp only [D.toP, Option.map_eq_some_iff] at h
    obtain ⟨a, xs, rfl, hs, rl⟩ := r
    obtain ⟨ps, hp, rfl⟩ := h
    exact .tup (seqT_same e hs) (RepL.dp e hp rl)
  | .lst ds, _, _, h, r => by
    simp only [RepV] at r
    simp only [D.toP, Option.map_eq_some_iff] at h
    obtain ⟨a, xs, rfl, hs, rl⟩ := r
    obtain ⟨ps, hp, rfl⟩ := h
    exact .lst (e.seq hs) (RepL.dp e hp rl)
  | .dic _ _, _, _, h, _ => by simp only [D.toP] at h; cases h
  | .ref _, _, _, h, _ => by simp only [D.toP] at h; cases h
theorem RepL.dp (e : Same k.H H) : ∀ {ds : List D} {xs : List V} {ps : List PyData}, D.toPL ds = some ps → RepL K k ds xs → DpAll K H xs ps
  | [], _, _, h, r => by
    simp only [RepL] at r; simp only [D.toPL, Option.some.injEq] at h; subst r h; exact .nil
  | d :: ds, _, _, h, r => by
    simp only [RepL] at r
    simp only [D.toPL, Option.bind_eq_some_iff, Option.map_eq_some_iff] at h
    obtain ⟨x, rr, rfl, r1, r2⟩ := r
    obtain ⟨p, h1, ps, h2, rfl⟩ := h
    exact .cons (RepV.dp e h1 r1) (RepL.dp e h2 r2)
end
theorem lst_view {d : D} {v : V} {ds : List D} (r0 : Rel0 K k H M) (h : lstOf M d = some ds) (r : RepV K k d v) : ∃ a xs, v = .ref a ∧ SqL K H a xs ∧ RepL K k ds xs := by
  cases d with
  | lst es =>
    simp only [lstOf, Option.some.injEq] at h
    subst h
    simp only [RepV] at r
    obtain ⟨a, xs, rfl, hs, rl⟩ := r
    exact ⟨a, xs, rfl, r0.ex.seq hs, rl⟩
  | ref n =>
    simp only [RepV] at r
    obtain ⟨a, rfl, ha⟩ := r
    simp only [lstOf] at h
    split at h
    · rename_i es hM
      cases h
      obtain ⟨xs, e1, rl⟩ := r0.obj n a _ ha hM
      exact ⟨a, xs, rfl, SqL.of e1, rl⟩
    · cases h
  | _ => simp [lstOf] at h
theorem seq_view {d : D} {v : V} {ds : List D} (r0 : Rel0 K k H M) (h : seqOf M d = some ds) (r : RepV K k d v) : ∃ a xs, v = .ref a ∧ (SqL K H a xs ∨ SqT K H a xs) ∧ RepL K k ds xs := by
  cases d with
  | tup es =>
    simp only [seqOf, Option.some.injEq] at h
    subst h
    simp only [RepV] at r
    obtain ⟨a, xs, rfl, hs, rl⟩ := r
    exact ⟨a, xs, rfl, .inr (seqT_same r0.ex hs), rl⟩
  | _ =>
    simp only [seqOf] at h
    obtain ⟨a, xs, e1, hs, rl⟩ := lst_view r0 h r
    exact ⟨a, xs, e1, .inl hs, rl⟩
theorem toPM_dp {d : D} {v : V} {p : PyData} (r0 : Rel0 K k H M) (h : toPM M d = some p) (r : RepV K k d v) : Dp K H v p := by
  cases d with
  | ref n =>
    simp only [RepV] at r
    obtain ⟨a, rfl, ha⟩ := r
    simp only [toPM] at h
    split at h
    · rename_i es hM
      obtain ⟨xs, e1, rl⟩ := r0.obj n a _ ha hM
      simp only [Option.map_eq_some_iff] at h
      obtain ⟨ps, hp, rfl⟩ := h
      exact .lst (SqL.of e1) (rl.dp r0.ex hp)
    · cases h
  | _ => exact RepV.dp r0.ex h r
theorem RepL.atI {ds : List D} {xs : List V} {i : Int} {d : D} (r : RepL K k ds xs) (h : L2.atI ds i = some d) : ∃ x, L2.atI xs i = some x ∧ RepV K k d x := by
  unfold L2.atI at h ⊢
  rw [r.length]
  cases e : ixN ds.length i with
  | none => rw [e] at h; cases h
  | some j =>
    rw [e] at h
    exact r.get h
theorem RepL.ints : ∀ {is : List Int} {xs : List V}, RepL K k (is.map D.int) xs → xs = is.map V.int
  | [], _, h => by simpa only [List.map_nil, RepL] using h
  | i :: is, _, h => by
    simp only [List.map_cons, RepL, RepV] at h
    obtain ⟨x, r, rfl, rfl, h2⟩ := h
    rw [List.map_cons, RepL.ints h2]
theorem RepL.of_ints : ∀ is : List Int, RepL K k (is.map D.int) (is.map V.int)
  | [] => RepL.nil
  | i :: is => RepL.cons (by simp only [RepV]) (RepL.of_ints is)
theorem RepL.bools : ∀ {is : List Bool} {xs : List V}, RepL K k (is.map D.bl) xs → xs = is.map V.bl
  | [], _, h => by simpa only [List.map_nil, RepL] using h
  | i :: is, _, h => by
    simp only [List.map_cons, RepL, RepV] at h
    obtain ⟨x, r, rfl, rfl, h2⟩ := h
    rw [List.map_cons, RepL.bools h2]
theorem RepL.strs : ∀ {is : List Str} {xs : List V}, RepL K k (is.map D.str) xs → xs = is.map V.str
  | [], _, h => by simpa only [List.map_nil, RepL] using h
  | i :: is, _, h => by
    simp only [List.map_cons, RepL, RepV] at h
    obtain ⟨x, r, rfl, rfl, h2⟩ := h
    rw [List.map_cons, RepL.strs h2]
theorem RepL.of_strs : ∀ is : List Str, RepL K k (is.map D.str) (is.map V.str)
  | [] => RepL.nil
  | i :: is => RepL.cons (by simp only [RepV]) (RepL.of_strs is)
end
/-- all items ints, bools, texts -/
def asInts : List D → Option (List Int)
  | [] => some []
  | .int i :: ds => (asInts ds).map fun is => i :: is
  | _ => none
theorem asInts_eq : ∀ {ds : List D} {is : List Int}, asInts ds = some is → ds = is.map D.int
  | [], _, h => by simp only [asInts, Option.some.injEq] at h; subst h; rfl
  | .int i :: ds, _, h => by
    simp only [asInts, Option.map_eq_some_iff] at h
    obtain ⟨js, h1, rfl⟩ := h
    rw [List.map_cons, asInts_eq h1]
  | .non :: _, _, h | .bl _ :: _, _, h | .str _ :: _, _, h | .tup _ :: _, _, h | .lst _ :: _, _, h | .dic _ _ :: _, _, h | .ref _ :: _, _, h => by simp [asInts] at h
@[simp] theorem asInts_map : ∀ is : List Int, asInts (is.map D.int) = some is
  | [] => rfl
  | i :: is => by simp only [List.map_cons, asInts, asInts_map is, Option.map_some]
def asBools : List D → Option (List Bool)
  | [] => some []
  | .bl i :: ds => (asBools ds).map fun is => i :: is
  | _ => none
theorem asBools_eq : ∀ {ds : List D} {is : List Bool}, asBools ds = some is → ds = is.map D.bl
  | [], _, h => by simp only [asBools, Option.some.injEq] at h; subst h; rfl
  | .bl i :: ds, _, h => by
    simp only [asBools, Option.map_eq_some_iff] at h
    obtain ⟨js, h1, rfl⟩ := h
    rw [List.map_cons, asBools_eq h1]
  | .non :: _, _, h | .int _ :: _, _, h | .str _ :: _, _, h | .tup _ :: _, _, h | .lst _ :: _, _, h | .dic _ _ :: _, _, h | .ref _ :: _, _, h => by simp [asBools] at h
@[simp] theorem asBools_map : ∀ is : List Bool, asBools (is.map D.bl) = some is
  | [] => rfl
  | i :: is => by simp only [List.map_cons, asBools, asBools_map is, Option.map_some]
def asStrs : List D → Option (List Str)
  | [] => some []
  | .str i :: ds => (asStrs ds).map fun is => i :: is
  | _ => none
theorem asStrs_eq : ∀ {ds : List D} {is : List Str}, asStrs ds = some is → ds = is.map D.str
  | [], _, h => by simp only [asStrs, Option.some.injEq] at h; subst h; rfl
  | .str i :: ds, _, h => by
    simp only [asStrs, Option.map_eq_some_iff] at h
    obtain ⟨js, h1, rfl⟩ := h
    rw [List.map_cons, asStrs_eq h1]
  | .non :: _, _, h | .int _ :: _, _, h | .bl _ :: _, _, h | .tup _ :: _, _, h | .lst _ :: _, _, h | .dic _ _ :: _, _, h | .ref _ :: _, _, h => by simp [asStrs] at h
@[simp] theorem asStrs_map : ∀ is : List Str, asStrs (is.map D.str) = some is
  | [] => rfl
  | i :: is => by simp only [List.map_cons, asStrs, asStrs_map is, Option.map_some]
/-! ### arithmetic -/
def addD : D → D → Mem → Res D
  | .int i, .int j, M => .ok (.int (i + j)) M
  | .str a, .str b, M => if a.length + b.length ≤ 1000000 then .ok (.str (a ++ b)) M else .bad
  | .tup a, .tup b, M => if a.length + b.length ≤ 1000000 then .ok (.tup (a ++ b)) M else .bad
  | _, _, _ => .bad
def subD : D → D → Mem → Res D
  | .int i, .int j, M => .ok (.int (i - j)) M
  | _, _, _ => .bad
def mulD : D → D → Mem → Res D
  | .int i, .int j, M => if -(2 ^ 64) < i ∧ i < 2 ^ 64 ∨ -(2 ^ 64) < j ∧ j < 2 ^ 64 then .ok (.int (i * j)) M else .bad
  | _, _, _ => .bad
def fdivD : D → D → Mem → Res D
  | .int i, .int j, M => if 0 < j ∧ j < 1073741824 then .ok (.int (i / j)) M else .bad
  | _, _, _ => .bad
def modD : D → D → Mem → Res D
  | .int i, .int j, M => if 0 < j then .ok (.int (i % j)) M else .bad
  | _, _, _ => .bad
section
variable {X : Cx} {E : XK}
theorem os_add : OpS X E (binaryOp .Add) addD := by
  intro k H M a b x y r0 ra rb Q p
  cases a with
  | int i =>
    cases b with
    | int j =>
      simp only [RepV] at ra rb
      subst ra rb
      exact ⟨_, op_add, i, j, rfl, rfl, p.ret r0 (by simp only [RepV])⟩
    | _ => exact p.elim
  | str i =>
    cases b with
    | str j =>
      simp only [RepV] at ra rb
      subst ra rb
      simp only [addD] at p
      by_cases h : i.length + j.length ≤ 1000000
      · rw [if_pos h] at p
        exact ⟨_, op_add_str, i, j, rfl, rfl, small_line h, p.ret r0 (by simp only [RepV])⟩
      · rw [if_neg h] at p; exact p.elim
    | _ => exact p.elim
  | tup ds =>
    cases b with
    | tup es =>
      simp only [RepV] at ra rb
      obtain ⟨a, xs, rfl, hs, rl⟩ := ra
      obtain ⟨b, ys, rfl, ht, rm⟩ := rb
      simp only [addD] at p
      by_cases h : ds.length + es.length ≤ 1000000
      · rw [if_pos h] at p
        refine ⟨_, op_catA, a, b, xs, ys, rfl, rfl, seqT_same r0.ex hs, seqT_same r0.ex ht, ?_, fun e => ?_, fun _ e => ?_, fun _ _ c hc => ?_⟩
        · rw [rl.length, rm.length]; exact small_line h
        · subst e
          have : ds = [] := List.length_eq_zero_iff.mp (by rw [← rl.length]; rfl)
          subst this
          refine p.ret r0 ?_
          simp only [RepV]
          exact ⟨b, ys, rfl, ht, rm⟩
        · subst e
          have : es = [] := List.length_eq_zero_iff.mp (by rw [← rm.length]; rfl)
          subst this
          refine p.ret r0 ?_
          rw [List.append_nil]
          simp only [RepV]
          exact ⟨a, xs, rfl, hs, rl⟩
        · exact PostE.tup p r0 hc (rl.append rm)
      · rw [if_neg h] at p; exact p.elim
    | _ => exact p.elim
  | _ => exact p.elim
theorem os_sub : OpS X E (binaryOp .Sub) subD := by
  intro k H M a b x y r0 ra rb Q p
  cases a with
  | int i =>
    cases b with
    | int j =>
      simp only [RepV] at ra rb
      subst ra rb
      exact ⟨_, op_sub, i, j, rfl, rfl, p.ret r0 (by simp only [RepV])⟩
    | _ => exact p.elim
  | _ => exact p.elim
theorem os_mul : OpS X E (binaryOp .Mult) mulD := by
  intro k H M a b x y r0 ra rb Q p
  cases a with
  | int i =>
    cases b with
    | int j =>
      simp only [RepV] at ra rb
      subst ra rb
      simp only [mulD] at p
      by_cases h : -(2 ^ 64) < i ∧ i < 2 ^ 64 ∨ -(2 ^ 64) < j ∧ j < 2 ^ 64
      · rw [if_pos h] at p
        exact ⟨_, op_mul, i, j, rfl, rfl, h, p.ret r0 (by simp only [RepV])⟩
      · rw [if_neg h] at p; exact p.elim
    | _ => exact p.elim
  | _ => exact p.elim
theorem os_fdiv : OpS X E (binaryOp .FloorDiv) fdivD := by
  intro k H M a b x y r0 ra rb Q p
  cases a with
  | int i =>
    cases b with
    | int j =>
      simp only [RepV] at ra rb
      subst ra rb
      simp only [fdivD] at p
      by_cases h : 0 < j ∧ j < 1073741824
      · rw [if_pos h] at p
        exact ⟨_, op_fdiv, i, j, rfl, rfl, h, p.ret r0 (by simp only [RepV])⟩
      · rw [if_neg h] at p; exact p.elim
    | _ => exact p.elim
  | _ => exact p.elim
theorem os_mod : OpS X E (binaryOp .Mod) modD := by
  intro k H M a b x y r0 ra rb Q p
  cases a with
  | int i =>
    cases b with
    | int j =>
      simp only [RepV] at ra rb
      subst ra rb
      simp only [modD] at p
      by_cases h : 0 < j
      · rw [if_pos h] at p
        exact ⟨_, op_mod, i, j, rfl, rfl, h, p.ret r0 (by simp only [RepV])⟩
      · rw [if_neg h] at p; exact p.elim
    | _ => exact p.elim
  | _ => exact p.elim
/-! ### order of ints -/
def cmpD (f : Int → Int → Bool) : D → D → Mem → Res D
  | .int i, .int j, M => .ok (.bl (f i j)) M
  | _, _, _ => .bad
theorem os_cmp {op : CmpOp} {f : Int → Int → Bool} (h : OpR X (compareOp op) (rI0 fun i j => .bl (f i j))) : OpS X E (compareOp op) (cmpD f) := by
  intro k H M a b x y r0 ra rb Q p
  cases a with
  | int i =>
    cases b with
    | int j =>
      simp only [RepV] at ra rb
      subst ra rb
      exact ⟨_, h, i, j, rfl, rfl, p.ret r0 (by simp only [RepV])⟩
    | _ => exact p.elim
  | _ => exact p.elim
theorem os_lt : OpS X E (compareOp .Lt) (cmpD fun i j => decide (i < j)) := os_cmp op_lt
theorem os_le : OpS X E (compareOp .LtE) (cmpD fun i j => decide (i ≤ j)) := os_cmp op_le
theorem os_gt : OpS X E (compareOp .Gt) (cmpD fun i j => decide (j < i)) := os_cmp op_gt
theorem os_ge : OpS X E (compareOp .GtE) (cmpD fun i j => decide (j ≤ i)) := os_cmp op_ge
/-! ### equality -/
def scalD : D → D → Option Bool
  | .non, .non => some true
  | .bl a, .bl b => some (decide (a = b))
  | .int i, .int j => some (decide (i = j))
  | .str a, .str b => some (decide (a = b))
  | .non, .str _ => some false
  | .str _, .non => some false
  | .non, .int _ => some false
  | .int _, .non => some false
  | _, _ => none
def tup0 : D → D → Option Bool
  | .tup xs, .tup [] => some xs.isEmpty
  | _, _ => none
def eqP (a b : D) (M : Mem) : Option Bool := match toPM M a, toPM M b with
  | some p, some q => if SeqAt.shaped p && SeqAt.shaped q then some (PyData.eqv p q) else none
  | _, _ => none
def eqB (a b : D) (M : Mem) : Option Bool := match scalD a b with
  | some c => some c
  | none => match tup0 a b with
    | some c => some c
    | none => eqP a b M
def eqD (a b : D) (M : Mem) : Res D := match eqB a b M with
  | some c => .ok (.bl c) M
  | none => .bad
def neB (a b : D) (M : Mem) : Option Bool := match scalD a b with
  | some c => some c
  | none => eqP a b M
def neD (a b : D) (M : Mem) : Res D := match neB a b M with
  | some c => .ok (.bl (!c)) M
  | none => .bad
theorem scal_rep {k : Kn} {a b : D} {c : Bool} {x y : V} (h : scalD a b = some c) (ra : RepV X.K k a x) (rb : RepV X.K k b y) : scal x y = true ∧ c = decide (x = y) := by
  cases a <;> cases b <;> simp only [scalD, Option.some.injEq, reduceCtorEq] at h <;> (simp only [RepV] at ra rb; subst ra rb h) <;> refine ⟨rfl, ?_⟩ <;> simp
/-- a tuple and () -/
theorem eq_tup0 {pins : List (Addr × Obj)} {s : Shared} {σ : L2.St} {H : Hp} {a b : Addr} {xs : List V} {Q : Value → Shared → Prop} (I : Inv X pins σ H s) (hu : X.A.units < cLine) (h1 : SqT X.K H a xs) (h2 : SqT X.K H b []) (q : Q (.bool xs.isEmpty) s) :
    wpAny (model X.prog X.w) X.A (compareOp .Eq (.ref a) (.ref b)) Q X.xe s := by
  obtain ⟨its, rv, ht, _⟩ := I.tuple h1
  obtain ⟨its2, rv2, ht2, _⟩ := I.tuple h2
  cases rv2
  refine SeqAt.eq_tupleAt (e := fun _ => true) (by obtain ⟨o, h1, h2, n, h3⟩ := ht; exact ⟨o, h1, h2, n, h3⟩) (by obtain ⟨o, h1, h2, n, h3⟩ := ht2; exact ⟨o, h1, h2, n, h3⟩) hu (fun j h1 h2 => absurd h2 (by simp)) ?_
  have e : ((List.range (min its.toArray.size ([] : List Value).toArray.size)).all (fun _ => true) && its.toArray.size == ([] : List Value).toArray.size) = xs.isEmpty := by
    cases rv <;> simp
  rw [e]
  exact q
def rEq0 (K : PySem.W.Frag) : R2 := fun x y H Q => ∃ a b xs, x = .ref a ∧ y = .ref b ∧ SqT K H a xs ∧ SqT K H b [] ∧ Q (.bl xs.isEmpty) H
def rNe0 (K : PySem.W.Frag) : R2 := fun x y H Q => ∃ a b xs, x = .ref a ∧ y = .ref b ∧ SqT K H a xs ∧ SqT K H b [] ∧ Q (.bl (!xs.isEmpty)) H
theorem op_eq0 (hu : X.A.units < cLine) : OpR X (compareOp .Eq) (rEq0 X.K) := by
  intro pins s σ H x y v u Q I rx ry h
  obtain ⟨a, b, xs, rfl, rfl, h1, h2, q⟩ := h
  cases rx
  cases ry
  exact eq_tup0 I hu h1 h2 ⟨.bl _, H, I, rfl, q⟩
theorem eqB_run {k : Kn} {H : Hp} {M : Mem} {a b : D} {c : Bool} {x y : V} (hu : X.A.units + 64 < cLine) (r0 : Rel0 X.K k H M) (ra : RepV X.K k a x) (rb : RepV X.K k b y) (h : eqB a b M = some c) {Q : VK} (q : Q (.bl c) H) : WOp X (compareOp .Eq) x y H Q := by
  unfold eqB at h
  cases hs : scalD a b with
  | some c' =>
    rw [hs] at h
    cases h
    obtain ⟨h1, h2⟩ := scal_rep hs ra rb
    exact ⟨_, op_eq, h1, by rw [← h2]; exact q⟩
  | none =>
    rw [hs] at h
    simp only at h
    cases h0 : tup0 a b with
    | some c' =>
      rw [h0] at h
      cases h
      unfold tup0 at h0
      split at h0
      · rename_i xs
        cases h0
        simp only [RepV] at ra rb
        obtain ⟨a1, ys, rfl, hs1, rl⟩ := ra
        obtain ⟨b1, zs, rfl, hs2, rm⟩ := rb
        simp only [RepL] at rm
        subst rm
        refine ⟨_, op_eq0 (by omega), a1, b1, ys, rfl, rfl, seqT_same r0.ex hs1, seqT_same r0.ex hs2, ?_⟩
        have e : ys.isEmpty = xs.isEmpty := by
          have := rl.length
          cases xs <;> cases ys <;> simp_all
        rw [e]
        exact q
      · cases h0
    | none =>
      rw [h0] at h
      simp only at h
      unfold eqP at h
      split at h
      · rename_i p q' hp hq
        split at h
        · rename_i hsh
          cases h
          rw [Bool.and_eq_true] at hsh
          exact ⟨_, op_eqD hu, p, q', toPM_dp r0 hp ra, toPM_dp r0 hq rb, hsh.1, hsh.2, q⟩
        · cases h
      · cases h
theorem os_ne (hu : X.A.units + 64 < cLine) : OpS X E (compareOp .NotEq) neD := by
  intro k H M a b x y r0 ra rb Q p
  unfold neD neB at p
  cases hs : scalD a b with
  | some c' =>
    rw [hs] at p
    obtain ⟨h1, h2⟩ := scal_rep hs ra rb
    exact ⟨_, op_ne, h1, by rw [← h2]; exact p.ret r0 (by simp only [RepV])⟩
  | none =>
    rw [hs] at p
    simp only at p
    cases h : eqP a b M with
    | none => rw [h] at p; exact p.elim
    | some c =>
      rw [h] at p
      unfold eqP at h
      split at h
      · rename_i p1 q1 hp hq
        split at h
        · rename_i hsh
          cases h
          rw [Bool.and_eq_true] at hsh
          exact ⟨_, op_neD hu, p1, q1, toPM_dp r0 hp ra, toPM_dp r0 hq rb, hsh.1, hsh.2, p.ret r0 (by simp only [RepV])⟩
        · cases h
      · cases h
theorem os_eq (hu : X.A.units + 64 < cLine) : OpS X E (compareOp .Eq) eqD := by
  intro k H M a b x y r0 ra rb Q p
  unfold eqD at p
  cases h : eqB a b M with
  | none => rw [h] at p; exact p.elim
  | some c => rw [h] at p; exact eqB_run hu r0 ra rb h (p.ret r0 (by simp only [RepV]))
end
end G
set_option maxHeartbeats 2000000
namespace G
open PySem PySem.Spec PyProof.Rows L2
/-! ### what a for walks -/
def srcOf (M : Mem) (d : D) : Option Src := match d with
  | .tup ds => some ⟨ds, fun _ => True⟩
  | .lst ds => some ⟨ds, fun _ => True⟩
  | .ref n => match M[n]? with
    | some (.lst ds) => some ⟨ds, fun M' => M'[n]? = some (.lst ds)⟩
    | _ => none
  | .str s => some ⟨s.cps.toList.map fun c => .str ⟨#[c]⟩, fun _ => True⟩
  | _ => none
def liftS (o : Option Src) (M : Mem) : Res Src := match o with
  | some s => .ok s M
  | none => .bad
def cIter (f : SemE) : SemI := fun ρ M => (f ρ M).bind fun d M1 => liftS (srcOf M1 d) M1
section
variable {X : Cx} {E : XK}
/-- a reading of an expression that ends in an iterator -/
theorem PostI.bind {α β : Type} {rep : Kn → α → β → Prop} {k : Kn} {H : Hp} {R : It → Hp → Prop} {r : Res α} {Q' : β → Hp → Prop} {g : α → Mem → Res Src} (h : PostI X E k H (r.bind g) R)
    (st : ∀ a M1 k1 x H1, Stp k H k1 H1 → Rel0 X.K k1 H1 M1 → rep k1 a x → PostI X E k1 H1 (g a M1) R → Q' x H1) : Post X.K X.mg E rep k H r Q' := by
  cases r with
  | ok a M1 =>
    intro k1 x H1 s1 r1 q1
    refine st a M1 k1 x H1 s1 r1 q1 ?_
    simp only [Res.bind_ok] at h
    cases hg : g a M1 with
    | bad => rw [hg] at h; exact h
    | exc c x2 M2 => rw [hg] at h; exact fun k2 H2 C od s2 r2 q2 => h k2 H2 C od (s1.trans s2) r2 q2
    | ok s M2 => rw [hg] at h; exact fun k2 H2 J G Y s2 => h k2 H2 J G Y (s1.trans s2)
  | exc c x M1 => exact h
  | bad => exact h
/-- items that stand as they are -/
theorem yat_ok {K : PySem.W.Frag} {k' : Kn} {H' : Hp} {ds : List D} {xs : List V} (rl : RepL K k' ds xs) : ∀ i H2 x H3 k2 (M2 : Mem) d, Stp k' H' k2 H2 → Rel0 K k2 H2 M2 → True → YAt xs i H2 x H3 → ds[i]? = some d → ∃ k3, Stp k2 H2 k3 H3 ∧ Rel0 K k3 H3 M2 ∧ RepV K k3 d x := by
  rintro i H2 x H3 k2 M2 d s2 r2 _ ⟨rfl, hx⟩ hd
  obtain ⟨y, hy, ry⟩ := rl.get hd
  rw [hx] at hy
  cases hy
  exact ⟨k2, Stp.refl _ _, r2, ry.mono s2.le⟩
theorem xi_val {tg e : Expr} {f : SemE} (h : XE X E e f) : XI X E tg e (cIter f) := by
  refine ⟨fun k σ H ρ M re r0 R p => ?_⟩
  unfold cIter at p
  cases hf : f ρ M with
  | bad => rw [hf] at p; exact p.elim
  | exc c x M1 =>
    rw [hf] at p
    exact ⟨_, pi_list pe_we, h.run k σ H ρ M re r0 _ (by rw [hf]; exact p)⟩
  | ok d M1 =>
    rw [hf] at p
    simp only [Res.bind_ok] at p
    cases d with
    | tup ds =>
      refine ⟨_, pi_tup pe_we, h.run k σ H ρ M re r0 _ ?_⟩
      rw [hf]
      intro k1 v H1 s1 r1 rv
      simp only [RepV] at rv
      obtain ⟨a, xs, rfl, hs, rl⟩ := rv
      have hs1 := seqT_same r1.ex hs
      refine ⟨a, rfl, ⟨xs, hs1⟩, ?_⟩
      have p' : PostI X E k H (.ok ⟨ds, fun _ => True⟩ M1) R := p
      refine p' k1 H1 _ (fun H => SqT X.K H a xs) (YAt xs) s1 r1 ?_ ?_ (yat_ok rl)
      · rw [← rl.length]; exact walk_tup
      · exact fun k2 H2 M2 s2 r2 _ => seqT_same r2.ex (seqT_same s2.same hs)
    | lst ds =>
      refine ⟨_, pi_list pe_we, h.run k σ H ρ M re r0 _ ?_⟩
      rw [hf]
      intro k1 v H1 s1 r1 rv
      simp only [RepV] at rv
      obtain ⟨a, xs, rfl, hs, rl⟩ := rv
      have hs1 := r1.ex.seq hs
      refine ⟨a, rfl, ⟨xs, hs1⟩, ?_⟩
      have p' : PostI X E k H (.ok ⟨ds, fun _ => True⟩ M1) R := p
      refine p' k1 H1 _ (fun H => SqL X.K H a xs) (YAt xs) s1 r1 ?_ ?_ (yat_ok rl)
      · rw [← rl.length]; exact walk_list
      · exact fun k2 H2 M2 s2 r2 _ => r2.ex.seq (s2.same.seq hs)
    | ref n =>
      simp only [srcOf] at p
      cases hM : M1[n]? with
      | none => rw [hM] at p; exact p.elim
      | some o =>
        rw [hM] at p
        cases o with
        | dic kvs => exact p.elim
        | lst ds =>
          refine ⟨_, pi_list pe_we, h.run k σ H ρ M re r0 _ ?_⟩
          rw [hf]
          intro k1 v H1 s1 r1 rv
          simp only [RepV] at rv
          obtain ⟨a, rfl, ha⟩ := rv
          obtain ⟨xs, e1, rl⟩ := r1.obj n a _ ha hM
          refine ⟨a, rfl, ⟨xs, SqL.of e1⟩, ?_⟩
          have p' : PostI X E k H (.ok ⟨ds, fun M' => M'[n]? = some (.lst ds)⟩ M1) R := p
          refine p' k1 H1 _ (fun H => ∃ ys, SqL X.K H a ys ∧ ys.length = ds.length) (fun i H x H' => H' = H ∧ ∀ ys, SqL X.K H a ys → ys[i]? = some x) s1 r1 ?_ ?_ ?_
          · refine ⟨?_, ?_, ?_⟩
            · rintro i H hi ⟨ys, hq, hl⟩
              have hi' : i < ds.length := hi
              exact ⟨ys, ys[i]'(by omega), hq, by simp [hl, hi']⟩
            · rintro H ⟨ys, hq, hl⟩
              exact ⟨ys, hq, Nat.le_of_eq hl⟩
            · rintro i H x H' hi ⟨ys, hq, hl⟩ y
              exact y
          · intro k2 H2 M2 s2 r2 g
            obtain ⟨zs, e2, rm⟩ := r2.obj n a _ (pre_get s2.pre ha) g
            exact ⟨zs, SqL.of e2, rm.length⟩
          · rintro i H2 x H3 k2 M2 d s2 r2 g ⟨rfl, y⟩ hd
            obtain ⟨zs, e2, rm⟩ := r2.obj n a _ (pre_get s2.pre ha) g
            obtain ⟨y1, hy, ry⟩ := rm.get hd
            have hx := y zs (SqL.of e2)
            rw [hx] at hy
            cases hy
            exact ⟨k2, Stp.refl _ _, r2, ry⟩
    | str z =>
      refine ⟨_, pi_str pe_we, h.run k σ H ρ M re r0 _ ?_⟩
      rw [hf]
      intro k1 v H1 s1 r1 rv
      simp only [RepV] at rv
      subst rv
      refine ⟨z, rfl, ?_⟩
      have p' : PostI X E k H (.ok ⟨z.cps.toList.map fun c => .str ⟨#[c]⟩, fun _ => True⟩ M1) R := p
      refine p' k1 H1 _ (fun _ => True) (fun i H v H' => H' = H ∧ ∃ c, z.cps[i]? = some c ∧ v = .str ⟨#[c]⟩) s1 r1 ?_ (fun _ _ _ _ _ _ => trivial) ?_
      · have : (z.cps.toList.map fun c => D.str ⟨#[c]⟩).length = z.cps.size := by simp
        rw [this]
        exact walk_str
      · rintro i H2 x H3 k2 M2 d s2 r2 _ ⟨rfl, c, hc, rfl⟩ hd
        rw [List.getElem?_map] at hd
        have hc' : z.cps.toList[i]? = some c := by simpa using hc
        rw [hc'] at hd
        cases hd
        exact ⟨k2, Stp.refl _ _, r2, by simp only [RepV]⟩
    | _ => exact p.elim
/-- range -/
def rangeL (lo hi : Int) : List D := (List.range (hi - lo).toNat).map fun i => .int (lo + (i : Nat))
def rng1 (ds : List D) (M : Mem) : Res Src := match ds with
  | [.int j] => if -(2 ^ 62) ≤ j ∧ j < 2 ^ 62 then .ok ⟨rangeL 0 j, fun _ => True⟩ M else .bad
  | _ => .bad
def rng2 (ds : List D) (M : Mem) : Res Src := match ds with
  | [.int i, .int j] => if -(2 ^ 62) ≤ i ∧ i < 2 ^ 62 ∧ -(2 ^ 62) ≤ j ∧ j < 2 ^ 62 then .ok ⟨rangeL i j, fun _ => True⟩ M else .bad
  | _ => .bad
theorem rng_ok {lo : Int} {n : Nat} {hi : Int} (hn : n = (hi - lo).toNat) {k' : Kn} {H' : Hp} : ∀ i H2 x H3 k2 (M2 : Mem) d, Stp k' H' k2 H2 → Rel0 X.K k2 H2 M2 → True → YFn (fun i => .int (lo + (i : Nat))) i H2 x H3 → (rangeL lo hi)[i]? = some d → ∃ k3, Stp k2 H2 k3 H3 ∧ Rel0 X.K k3 H3 M2 ∧ RepV X.K k3 d x := by
  rintro i H2 x H3 k2 M2 d s2 r2 _ ⟨rfl, rfl⟩ hd
  unfold rangeL at hd
  rw [List.getElem?_map] at hd
  cases e : (List.range (hi - lo).toNat)[i]? with
  | none => rw [e] at hd; cases hd
  | some j =>
    rw [e] at hd
    cases hd
    have : j = i := by
      obtain ⟨h1, h2⟩ := List.getElem?_eq_some_iff.mp e
      rw [List.getElem_range] at h2
      exact h2.symm
    subst this
    exact ⟨k2, Stp.refl _ _, r2, by simp only [RepV]⟩
theorem xi_range1 {tg a : Expr} {g : SemA} {p pos : Pos} (hg : Gl X "range") (hm : X.mg "range" = none) (h : XA X E [a] g) (hs : starEach [a] X.env = [(false, eval a X.env)] := by rfl) : XI X E tg (.Call (.Name "range" p) [a] [] pos) (fun ρ M => (g ρ M).bind rng1) := by
  refine ⟨fun k σ H ρ M re r0 R q => ⟨_, pi_range1 hg hm pa_wa hs, ?_⟩⟩
  refine h.run k σ H ρ M re r0 _ (PostI.bind q fun ds M1 k1 vs H1 s1 r1 q1 p1 => ?_)
  unfold rng1 at p1
  split at p1
  · rename_i j
    split at p1
    · rename_i hb
      simp only [RepL, RepV] at q1
      obtain ⟨x, r, rfl, rfl, rfl⟩ := q1
      refine ⟨j, rfl, hb.1, hb.2, ?_⟩
      refine p1 k1 H1 _ (fun _ => True) _ (Stp.refl _ _) r1 ?_ (fun _ _ _ _ _ _ => trivial) (rng_ok (n := j.toNat) (hi := j) (by omega))
      have e : (rangeL 0 j).length = j.toNat := by simp [rangeL]
      rw [show (Src.mk (rangeL 0 j) fun _ => True).ds.length = j.toNat from e]
      exact walk_range
    · exact p1.elim
  · exact p1.elim
theorem xi_range2 {tg a b : Expr} {g : SemA} {p pos : Pos} (hg : Gl X "range") (hm : X.mg "range" = none) (h : XA X E [a, b] g) (hs : starEach [a, b] X.env = [(false, eval a X.env), (false, eval b X.env)] := by rfl) (hs2 : starEach [b] X.env = [(false, eval b X.env)] := by rfl) : XI X E tg (.Call (.Name "range" p) [a, b] [] pos) (fun ρ M => (g ρ M).bind rng2) := by
  refine ⟨fun k σ H ρ M re r0 R q => ⟨_, pi_range2 hg hm pa_wa hs hs2, ?_⟩⟩
  refine h.run k σ H ρ M re r0 _ (PostI.bind q fun ds M1 k1 vs H1 s1 r1 q1 p1 => ?_)
  unfold rng2 at p1
  split at p1
  · rename_i i j
    split at p1
    · rename_i hb
      simp only [RepL, RepV] at q1
      obtain ⟨x, r, rfl, rfl, y, r2, rfl, rfl, rfl⟩ := q1
      refine ⟨i, j, rfl, hb, ?_⟩
      refine p1 k1 H1 _ (fun _ => True) _ (Stp.refl _ _) r1 ?_ (fun _ _ _ _ _ _ => trivial) (rng_ok (n := (j - i).toNat) (hi := j) rfl)
      have e : (rangeL i j).length = (j - i).toNat := by simp [rangeL]
      rw [show (Src.mk (rangeL i j) fun _ => True).ds.length = (j - i).toNat from e]
      exact walk_range
    · exact p1.elim
  · exact p1.elim
/-- new pairs -/
theorem pair_ok {k2 : Kn} {H2 H3 : Hp} {M2 : Mem} {T : Addr} {x y : V} {d e : D} (r2 : Rel0 X.K k2 H2 M2) (hT : H2 T = none) (e3 : H3 = upd H2 T (.tup [x, y])) (rx : RepV X.K k2 d x) (ry : RepV X.K k2 e y) :
    ∃ k3, Stp k2 H2 k3 H3 ∧ Rel0 X.K k3 H3 M2 ∧ RepV X.K k3 (.tup [d, e]) (.ref T) := by
  subst e3
  have h1 := (r2.free hT).1
  refine ⟨⟨upd k2.H T (.tup [x, y]), k2.ι⟩, (Stp.new hT).frz hT h1, (r2.new hT).frz upd_same h1 (r2.free hT).2, ?_⟩
  simp only [RepV]
  exact ⟨T, [x, y], rfl, SqT.of upd_same, RepL.cons (rx.mono (kle_frz h1)) (RepL.cons (ry.mono (kle_frz h1)) RepL.nil)⟩
def enumL (ds : List D) : List D := (List.range ds.length).zipWith (fun i d => .tup [.int (i : Nat), d]) ds
theorem enumL_get {ds : List D} {i : Nat} {d : D} (h : (enumL ds)[i]? = some d) : ∃ d', ds[i]? = some d' ∧ d = .tup [.int (i : Nat), d'] := by
  unfold enumL at h
  rw [List.getElem?_zipWith] at h
  cases e1 : (List.range ds.length)[i]? with
  | none => rw [e1] at h; cases h
  | some j =>
    cases e2 : ds[i]? with
    | none => rw [e1, e2] at h; cases h
    | some d' =>
      rw [e1, e2] at h
      cases h
      have : j = i := by
        obtain ⟨h1, h2⟩ := List.getElem?_eq_some_iff.mp e1
        rw [List.getElem_range] at h2
        exact h2.symm
      subst this
      exact ⟨d', rfl, rfl⟩
@[simp] theorem enumL_length (ds : List D) : (enumL ds).length = ds.length := by simp [enumL]
def enumS (ds : List D) (M : Mem) : Res Src := match ds with
  | [.tup es] => .ok ⟨enumL es, fun _ => True⟩ M
  | [.lst es] => .ok ⟨enumL es, fun _ => True⟩ M
  | [.ref n] => match M[n]? with
    | some (.lst es) => .ok ⟨enumL es, fun M' => M'[n]? = some (.lst es)⟩ M
    | _ => .bad
  | _ => .bad
theorem xi_enum {e : Expr} {elts : List Expr} {kk : Nat} {g : SemA} {p pos tpos : Pos} (hg : Gl X "enumerate") (hm : X.mg "enumerate" = none) (h : XA X E [e] g) (hs : starEach [e] X.env = [(false, eval e X.env)] := by rfl) :
    XI X E (.Tuple elts kk tpos) (.Call (.Name "enumerate" p) [e] [] pos) (fun ρ M => (g ρ M).bind enumS) := by
  refine ⟨fun k σ H ρ M re r0 R q => ?_⟩
  by_cases ht : ∃ es M1, g ρ M = .ok [.tup es] M1
  · obtain ⟨es, M1, hgq⟩ := ht
    refine ⟨_, pi_enumT hg hm pa_wa hs, ?_⟩
    refine h.run k σ H ρ M re r0 _ ?_
    rw [hgq] at q ⊢
    intro k1 vs H1 s1 r1 q1
    simp only [RepL, RepV] at q1
    obtain ⟨x, r, rfl, ⟨a, xs, rfl, hs1, rl⟩, rfl⟩ := q1
    have hs2 := seqT_same r1.ex hs1
    refine ⟨a, xs, rfl, hs2, ?_⟩
    have p' : PostI X E k H (.ok ⟨enumL es, fun _ => True⟩ M1) R := q
    refine p' k1 H1 _ (fun H => SqT X.K H a xs) (YPair (fun i => some (.int (i : Nat))) (fun i => xs[i]?)) s1 r1 ?_ ?_ ?_
    · rw [show (Src.mk (enumL es) fun _ => True).ds.length = xs.length by rw [rl.length]; exact enumL_length es]
      exact walk_enumT
    · exact fun k2 H2 M2 s2 r2 _ => seqT_same r2.ex (seqT_same s2.same hs1)
    · rintro i H2 x H3 k2 M2 d s2 r2 _ ⟨T, u, v, rfl, hT, e3, hu, hv⟩ hd
      obtain ⟨d', hd', rfl⟩ := enumL_get hd
      obtain ⟨z, hz, rz⟩ := rl.get hd'
      have hv' : xs[i]? = some v := hv
      rw [hv'] at hz
      cases hz
      cases hu
      exact pair_ok r2 hT e3 (by simp only [RepV]) (rz.mono s2.le)
  · refine ⟨_, pi_enum hg hm pa_wa hs, ?_⟩
    refine h.run k σ H ρ M re r0 _ ?_
    cases hgq : g ρ M with
    | bad => rw [hgq] at q; exact q.elim
    | exc c x M1 => rw [hgq] at q; exact q
    | ok ds M1 =>
      rw [hgq] at q
      intro k1 vs H1 s1 r1 q1
      have lists : ∀ (es : List D) (gd : Mem → Prop) (a : Addr), vs = [.ref a] → (∀ k2 H2 M2, Stp k1 H1 k2 H2 → Rel0 X.K k2 H2 M2 → gd M2 → ∃ xs, SqL X.K H2 a xs ∧ RepL X.K k2 es xs) → gd M1 → PostI X E k H (.ok ⟨enumL es, gd⟩ M1) R → ∃ a xs, vs = [.ref a] ∧ SqL X.K H1 a xs ∧ R (Ite X.K a) H1 := by
        intro es gd a ev hst g1 p'
        obtain ⟨xs, hx, rl⟩ := hst k1 H1 M1 (Stp.refl _ _) r1 g1
        refine ⟨a, xs, ev, hx, ?_⟩
        refine p' k1 H1 _ (fun H => ∃ ys, SqL X.K H a ys ∧ ys.length = es.length) (fun i H v H' => ∃ T x, v = .ref T ∧ H T = none ∧ H' = upd H T (.tup [.int (i : Nat), x]) ∧ ∀ xs, SqL X.K H a xs → xs[i]? = some x) s1 r1 ?_ ?_ ?_
        · refine ⟨?_, ?_, ?_⟩
          · rintro i H hi ⟨ys, hq, hl⟩
            have hi' : i < es.length := by
              have : (enumL es).length = es.length := enumL_length es
              exact this ▸ hi
            exact ⟨ys, ys[i]'(by omega), hq, by simp [hl, hi']⟩
          · rintro H ⟨ys, hq, hl⟩
            exact ⟨ys, hq, by rw [hl]; exact Nat.le_of_eq (enumL_length es).symm⟩
          · rintro i H x H' hi ⟨ys, hq, hl⟩ y
            exact y
        · intro k2 H2 M2 s2 r2 g
          obtain ⟨zs, e2, rm⟩ := hst k2 H2 M2 s2 r2 g
          exact ⟨zs, e2, rm.length⟩
        · rintro i H2 x H3 k2 M2 d s2 r2 g ⟨T, u, rfl, hT, e3, hu⟩ hd
          obtain ⟨d', hd', rfl⟩ := enumL_get hd
          obtain ⟨zs, e2, rm⟩ := hst k2 H2 M2 s2 r2 g
          obtain ⟨y1, hy, ry⟩ := rm.get hd'
          rw [hu zs e2] at hy
          cases hy
          exact pair_ok r2 hT e3 (by simp only [RepV]) ry
      simp only [Res.bind_ok] at q
      unfold enumS at q
      split at q
      · rename_i es
        exact absurd ⟨es, M1, hgq⟩ ht
      · rename_i es
        simp only [RepL, RepV] at q1
        obtain ⟨x, r, rfl, ⟨a, xs, rfl, hs1, rl⟩, rfl⟩ := q1
        exact lists es _ a rfl (fun k2 H2 M2 s2 r2 _ => ⟨xs, r2.ex.seq (s2.same.seq hs1), rl.mono s2.le⟩) trivial q
      · rename_i n
        split at q
        · rename_i es hM
          simp only [RepL, RepV] at q1
          obtain ⟨x, r, rfl, ⟨a, rfl, ha⟩, rfl⟩ := q1
          refine lists es _ a rfl (fun k2 H2 M2 s2 r2 g => ?_) hM q
          obtain ⟨zs, e2, rm⟩ := r2.obj n a _ (pre_get s2.pre ha) g
          exact ⟨zs, SqL.of e2, rm⟩
        · exact q.elim
      · exact q.elim
end
end G
set_option maxHeartbeats 2000000
namespace G
open PySem PySem.Spec PyProof.Rows L2
/-! ### calls with keywords -/
structure XKw (X : Cx) (E : L2.XK) (kws : List Keyword) (f : SemA) : Prop where
  run : ∀ k σ H ρ M, RelE X.K k σ ρ → Rel0 X.K k H M → ∀ Q : List V → Hp → Prop, PostA X E k H (f ρ M) Q → ∃ t, PK X kws t ∧ t σ H Q
def WK (X : Cx) (kws : List Keyword) : TA := fun σ H Q => ∃ t, PK X kws t ∧ t σ H Q
theorem pk_wk {X : Cx} {kws : List Keyword} : PK X kws (WK X kws) := ⟨fun pos pins s σ H Q I ⟨_, h, q⟩ => h.run pos pins s σ H Q I q⟩
section
variable {X : Cx} {E : L2.XK} {x : Str} {i j n : Nat} {m : List D → Mem → Res D} {e : Expr} {es : List Expr} {g gk : SemA} {f : SemE} {kws : List Keyword} {nm : Option Str} {p pos kpos : Pos}
theorem xk_nil : XKw X E [] cNil := ⟨fun k σ H ρ M re r0 Q p => ⟨_, pk_nil, p.ret r0 RepL.nil⟩⟩
theorem xk_cons (h : XE X E e f) (hr : XKw X E kws g) : XKw X E (⟨nm, e, kpos⟩ :: kws) (cCons f g) := by
  refine ⟨fun k σ H ρ M re r0 Q p => ⟨_, pk_cons pe_we pk_wk, ?_⟩⟩
  refine h.run k σ H ρ M re r0 _ (Post.bind p fun x M1 k1 v H1 s1 r1 q1 p1 => ?_)
  refine hr.run k1 σ H1 ρ M1 (re.mono s1.le) r1 _ (Post.bind p1 fun xs M2 k2 vs H2 s2 r2 q2 p2 => ?_)
  exact p2.ret r2 (RepL.cons (q1.mono s2.le) q2)
/-- the arguments in the parameters' order: gD tells where each one goes -/
def cCallK (m : List D → Mem → Res D) (gD : List D → List D → List D) (n l : Nat) (g gk : SemA) : SemE := fun ρ M => (g ρ M).bind fun ds M1 => (gk ρ M1).bind fun es M2 => if ds.length = n ∧ es.length = l then m (gD ds es) M2 else .bad
theorem xe_callK0 {f : Addr} {fd : FuncData} {ps ks : List Str} {gg : List Value → List Value → List Value} {gV : List V → List V → List V} {gD : List D → List D → List D} (Fg : FnG X.prog X.w X.K X.mg X.base x f fd ps i m) (hb : KBn X.K fd ps 0 ks gg gV) (hr : ∀ {K : PySem.W.Frag} {k : Kn} {ds es : List D} {vs zs : List V}, RepL K k ds vs → RepL K k es zs → RepL K k (gD ds es) (gV vs zs))
    (C : CtxOk X E j) (hij : i ≤ j) (hg : Gl X x) (hkw : XKw X E kws gk) (hall : (backToKw pos (keywordEach kws X.env)).all (·.1.isSome) = true := by rfl) (hks : (backToKw pos (keywordEach kws X.env)).filterMap (·.1) = ks := by rfl)
    (hdb : (x == ("__debug__" : Str)) = false := by decide) (hpl : ((backTo pos (starEach [] X.env)).any (·.1) || (backToKw pos (keywordEach kws X.env)).any (·.1.isNone)) = false := by rfl) :
    XE X E (.Call (.Name x p) [] kws pos) (cCallK m gD 0 ks.length cNil gk) := by
  have hp : PE X (.Call (.Name x p) [] kws pos) (fun σ H Q => WK X kws σ H fun zs H2 => zs.length = ks.length ∧ spF X.K X.mg m (gV [] zs) H2 Q E) := by
    refine ⟨fun pins s σ H Q I h => ?_⟩
    refine wpAny_Call_Name_kw (ld_glob I hg Fg.hm ?_ hdb)
    refine PySem.W.callWith_KW0 (h₀ := X.base) I.ok.mod.kin Fg.hk hall ?_ hpl
    refine thn (pk_wk.run pos pins s σ H _ I h) fun ws s2 ⟨zs, H2, I2, rz, l2, q2⟩ => ⟨I2.kIn, ?_⟩
    rw [hks]
    exact run_fnNG Fg.ok (C.room.mono hij) C.gd hb C.pass I2 .nil rz rfl l2 q2
  refine ⟨fun k σ H ρ M re r0 Q q => ⟨_, hp, ?_⟩⟩
  have q' : PostE X E k H ((gk ρ M).bind fun es M2 => if ([] : List D).length = 0 ∧ es.length = ks.length then m (gD [] es) M2 else .bad) Q := q
  refine hkw.run k σ H ρ M re r0 _ (Post.bind q' fun es M1 k1 zs H1 s1 r1 q1 p1 => ?_)
  by_cases hl : ([] : List D).length = 0 ∧ es.length = ks.length
  · rw [if_pos hl] at p1
    exact ⟨by rw [q1.length]; exact hl.2, k1, _, M1, r1, hr RepL.nil q1, p1⟩
  · rw [if_neg hl] at p1
    exact p1.elim
end
/-! ### one-place operators -/
def negD : D → Mem → Res D
  | .int i, M => .ok (.int (-i)) M
  | _, _ => .bad
def c1 (g : D → Mem → Res D) (f : SemE) : SemE := fun ρ M => (f ρ M).bind g
section
variable {X : Cx} {E : L2.XK} {a b : Expr} {fa fb : SemE} {pos : Pos}
theorem xe_neg (ha : XE X E a fa) : XE X E (.UnaryOp .USub a pos) (c1 negD fa) := by
  refine ⟨fun k σ H ρ M re r0 Q p => ⟨_, pe_un un_neg pe_we, ?_⟩⟩
  refine ha.run k σ H ρ M re r0 _ (Post.bind p fun x M1 k1 v H1 s1 r1 q1 p1 => ?_)
  cases x with
  | int i =>
    simp only [RepV] at q1
    subst q1
    exact ⟨i, rfl, p1.ret r1 (by simp only [RepV])⟩
  | _ => exact p1.elim
/-! ### is None -/
def isN : D → Mem → Res D
  | .non, M => .ok (.bl true) M
  | _, M => .ok (.bl false) M
def notN : D → Mem → Res D
  | .non, M => .ok (.bl false) M
  | _, M => .ok (.bl true) M
theorem rep_non {K : PySem.W.Frag} {k : Kn} {d : D} {x : V} (h : RepV K k d x) : decide (x = .non) = (match d with | .non => true | _ => false) := by
  cases d <;> simp only [RepV] at h <;> first
    | (subst h; simp)
    | (obtain ⟨a, xs, rfl, _⟩ := h; simp)
    | (obtain ⟨a, rfl, _⟩ := h; simp)
theorem xe_isN {j pos'} (ha : XE X E a fa) : XE X E (.Compare a [.Is] [.Constant .none j pos'] pos) (c1 isN fa) := by
  refine ⟨fun k σ H ρ M re r0 Q p => ⟨_, pe_cmp (pc_isN pe_we), ?_⟩⟩
  refine ha.run k σ H ρ M re r0 _ (Post.bind p fun x M1 k1 v H1 s1 r1 q1 p1 => ?_)
  rw [rep_non q1]
  cases x <;> exact p1.ret r1 (by simp only [RepV])
theorem xe_notN {j pos'} (ha : XE X E a fa) : XE X E (.Compare a [.IsNot] [.Constant .none j pos'] pos) (c1 notN fa) := by
  refine ⟨fun k σ H ρ M re r0 Q p => ⟨_, pe_cmp (pc_notN pe_we), ?_⟩⟩
  refine ha.run k σ H ρ M re r0 _ (Post.bind p fun x M1 k1 v H1 s1 r1 q1 p1 => ?_)
  rw [rep_non q1]
  cases x <;> exact p1.ret r1 (by simp [RepV])
theorem xt_isN {j pos'} (ha : XE X E a fa) : XT X E (.Compare a [.Is] [.Constant .none j pos'] pos) (cT (c1 isN fa)) := by
  refine ⟨fun k σ H ρ M re r0 Q p => ⟨_, pt_cmp (pc_isN pe_we), ?_⟩⟩
  unfold cT c1 at p
  refine ha.run k σ H ρ M re r0 _ ?_
  cases hf : fa ρ M with
  | bad => rw [hf] at p; exact p
  | exc c x M1 => rw [hf] at p; exact p
  | ok d M1 =>
    rw [hf] at p
    intro k1 v H1 s1 r1 q1
    rw [rep_non q1]
    refine ⟨_, rfl, ?_⟩
    cases d <;> exact p.ret' s1 r1 rfl
theorem xt_notN {j pos'} (ha : XE X E a fa) : XT X E (.Compare a [.IsNot] [.Constant .none j pos'] pos) (cT (c1 notN fa)) := by
  refine ⟨fun k σ H ρ M re r0 Q p => ⟨_, pt_cmp (pc_notN pe_we), ?_⟩⟩
  unfold cT c1 at p
  refine ha.run k σ H ρ M re r0 _ ?_
  cases hf : fa ρ M with
  | bad => rw [hf] at p; exact p
  | exc c x M1 => rw [hf] at p; exact p
  | ok d M1 =>
    rw [hf] at p
    intro k1 v H1 s1 r1 q1
    rw [rep_non q1]
    refine ⟨_, rfl, ?_⟩
    cases d <;> exact p.ret' s1 r1 rfl
/-! ### subscripts -/
def idxD (x i : D) (M : Mem) : Res D := match i with
  | .int n => match x with
    | .tup ds => match L2.atI ds n with
      | some d => .ok d M
      | none => .bad
    | .str s => if s.length ≤ 1000000 then match L2.atI s.cps.toList n with
        | some c => .ok (.str ⟨#[c]⟩) M
        | none => .bad
      else .bad
    | x => match lstOf M x with
      | some ds => match L2.atI ds n with
        | some d => .ok d M
        | none => .bad
      | none => .bad
  | _ => .bad
theorem xe_ix (ha : XE X E a fa) (hb : XE X E b fb) (hs : PlainIx b) : XE X E (.Subscript a b pos) (c2 idxD fa fb) := by
  let R : R2 := fun x y H Q => rIxL X.K x y H Q ∨ rIxT X.K x y H Q ∨ rIxS x y H Q
  refine ⟨fun k σ H ρ M re r0 Q p => ⟨_, pe_ix (r := rIx X.K) ix_seq pe_we pe_we hs, ?_⟩⟩
  refine ha.run k σ H ρ M re r0 _ (Post.bind p fun x M1 k1 v H1 s1 r1 q1 p1 => ?_)
  refine hb.run k1 σ H1 ρ M1 (re.mono s1.le) r1 _ (Post.bind p1 fun y M2 k2 u H2 s2 r2 q2 p2 => ?_)
  have q1' := q1.mono s2.le
  cases y with
  | int n =>
    simp only [RepV] at q2
    subst q2
    have lists : ∀ ds, lstOf M2 x = some ds → (∀ d, L2.atI ds n = some d → PostE X E k2 H2 (.ok d M2) Q) → (L2.atI ds n = none → False) → rIx X.K v (.int n) H2 Q := by
      intro ds hds h1 h2
      obtain ⟨a1, xs, rfl, hl, rl⟩ := lst_view r2 hds q1'
      cases hd : L2.atI ds n with
      | none => exact (h2 hd).elim
      | some d =>
        obtain ⟨z, hz, rz⟩ := rl.atI hd
        exact .inl ⟨a1, xs, n, z, rfl, rfl, hl, hz, (h1 d hd).ret r2 rz⟩
    have fall : PostE X E k2 H2 (match lstOf M2 x with | some ds => (match L2.atI ds n with | some d => Res.ok d M2 | none => .bad) | none => .bad) Q → rIx X.K v (.int n) H2 Q := by
      intro p3
      cases hds : lstOf M2 x with
      | none => rw [hds] at p3; exact p3.elim
      | some ds =>
        rw [hds] at p3
        refine lists ds hds (fun d hd => ?_) fun hd => ?_
        · simp only [hd] at p3; exact p3
        · simp only [hd] at p3; exact p3
    cases x with
    | tup ds =>
      simp only [RepV] at q1'
      obtain ⟨a1, xs, rfl, hs1, rl⟩ := q1'
      simp only [idxD] at p2
      cases hd : L2.atI ds n with
      | none => rw [hd] at p2; exact p2.elim
      | some d =>
        rw [hd] at p2
        obtain ⟨z, hz, rz⟩ := rl.atI hd
        exact .inr (.inl ⟨a1, xs, n, z, rfl, rfl, seqT_same r2.ex hs1, hz, p2.ret r2 rz⟩)
    | str s =>
      simp only [RepV] at q1'
      subst q1'
      simp only [idxD] at p2
      by_cases hz : s.length ≤ 1000000
      · rw [if_pos hz] at p2
        cases hd : L2.atI s.cps.toList n with
        | none => rw [hd] at p2; exact p2.elim
        | some c =>
          rw [hd] at p2
          exact .inr (.inr ⟨s, n, c, rfl, rfl, small_line hz, hd, p2.ret r2 (by simp only [RepV])⟩)
      · rw [if_neg hz] at p2; exact p2.elim
    | lst ds => exact fall p2
    | ref n => exact fall p2
    | _ => exact p2.elim
  | _ => exact p2.elim
end
end G
set_option maxHeartbeats 2000000
namespace G
open PySem PySem.Spec PyProof.Rows L2
def lenD (ds : List D) (M : Mem) : Res D := match ds with
  | [.str s] => if s.length ≤ 1000000 then .ok (.int s.length) M else .bad
  | [.ref n] => match M[n]? with
    | some (.lst es) => .ok (.int es.length) M
    | some (.dic kvs) => .ok (.int kvs.length) M
    | none => .bad
  | [x] => match seqOf M x with
    | some es => .ok (.int es.length) M
    | none => .bad
  | _ => .bad
section
variable {X : Cx} {E : L2.XK}
theorem RepL.one {K : PySem.W.Frag} {k : Kn} {d : D} {vs : List V} (h : RepL K k [d] vs) : ∃ v, vs = [v] ∧ RepV K k d v := by
  simp only [RepL] at h
  obtain ⟨x, r, rfl, h1, rfl⟩ := h
  exact ⟨x, rfl, h1⟩
theorem RepL.two {K : PySem.W.Frag} {k : Kn} {d e : D} {vs : List V} (h : RepL K k [d, e] vs) : ∃ v u, vs = [v, u] ∧ RepV K k d v ∧ RepV K k e u := by
  simp only [RepL] at h
  obtain ⟨x, r, rfl, h1, y, r2, rfl, h2, rfl⟩ := h
  exact ⟨x, y, rfl, h1, h2⟩
theorem RepKV.length {K : PySem.W.Frag} {k : Kn} {kvs : List (Key × D)} {kvs' : List (Key × V)} (h : RepKV K k kvs kvs') : kvs'.length = kvs.length := (Paired.length h).symm
theorem cs_len : CallS X E (.builtin "len") lenD := by
  intro k H M ds vs r0 rl Q p
  have gen : ∀ x es, ds = [x] → seqOf M x = some es → PostE X E k H (.ok (.int es.length) M) Q → WCall X (.builtin "len") vs H Q := by
    intro x es hds hx p'
    subst hds
    obtain ⟨v, rfl, rv⟩ := rl.one
    obtain ⟨a, xs, rfl, hs, rx⟩ := seq_view r0 hx rv
    refine ⟨_, call_len_seq, a, xs, rfl, hs, ?_⟩
    rw [rx.length]
    exact p'.ret r0 (by simp only [RepV])
  unfold lenD at p
  split at p
  · rename_i s
    split at p
    · rename_i hz
      obtain ⟨v, rfl, rv⟩ := rl.one
      simp only [RepV] at rv
      subst rv
      exact ⟨_, call_len_str, s, rfl, small_line hz, p.ret r0 (by simp only [RepV])⟩
    · exact p.elim
  · rename_i n
    split at p
    · rename_i es hM
      exact gen (.ref n) es rfl (by simp only [seqOf, lstOf, hM]) p
    · rename_i kvs hM
      obtain ⟨v, rfl, rv⟩ := rl.one
      simp only [RepV] at rv
      obtain ⟨a, rfl, ha⟩ := rv
      obtain ⟨kvs', e1, rk⟩ := r0.obj n a _ ha hM
      refine ⟨_, call_lenD, a, kvs', rfl, e1, ?_⟩
      rw [rk.length]
      exact p.ret r0 (by simp only [RepV])
    · exact p.elim
  · rename_i x _ _
    split at p
    · rename_i es hx
      exact gen x es rfl hx p
    · exact p.elim
  · exact p.elim
def absD (ds : List D) (M : Mem) : Res D := match ds with
  | [.int i] => .ok (.int (if i < 0 then -i else i)) M
  | _ => .bad
theorem cs_abs : CallS X E (.builtin "abs") absD := by
  intro k H M ds vs r0 rl Q p
  unfold absD at p
  split at p
  · obtain ⟨v, rfl, rv⟩ := rl.one
    simp only [RepV] at rv
    subst rv
    exact ⟨_, call_abs, _, rfl, p.ret r0 (by simp only [RepV])⟩
  · exact p.elim
def intD (ds : List D) (M : Mem) : Res D := match ds with
  | [.int i] => .ok (.int i) M
  | [.bl b] => .ok (.int (if b then 1 else 0)) M
  | _ => .bad
theorem cs_int : CallS X E (.type "int") intD := by
  intro k H M ds vs r0 rl Q p
  unfold intD at p
  split at p
  · obtain ⟨v, rfl, rv⟩ := rl.one
    simp only [RepV] at rv
    subst rv
    exact ⟨_, call_int1, .inl ⟨_, rfl, p.ret r0 (by simp only [RepV])⟩⟩
  · obtain ⟨v, rfl, rv⟩ := rl.one
    simp only [RepV] at rv
    subst rv
    exact ⟨_, call_int1, .inr ⟨_, rfl, p.ret r0 (by simp only [RepV])⟩⟩
  · exact p.elim
def max2D (ds : List D) (M : Mem) : Res D := match ds with
  | [.int i, .int j] => .ok (.int (if j > i then j else i)) M
  | _ => .bad
theorem cs_max2 (hc : X.calm = true) : CallS X E (.builtin "max") max2D := by
  intro k H M ds vs r0 rl Q p
  unfold max2D at p
  split at p
  · obtain ⟨v, u, rfl, rv, ru⟩ := rl.two
    simp only [RepV] at rv ru
    subst rv ru
    exact ⟨_, call_max2 hc, _, _, rfl, p.ret r0 (by simp only [RepV])⟩
  · exact p.elim
def min2D (ds : List D) (M : Mem) : Res D := match ds with
  | [.int i, .int j] => .ok (.int (if j < i then j else i)) M
  | _ => .bad
theorem cs_min2 (hc : X.calm = true) : CallS X E (.builtin "min") min2D := by
  intro k H M ds vs r0 rl Q p
  unfold min2D at p
  split at p
  · obtain ⟨v, u, rfl, rv, ru⟩ := rl.two
    simp only [RepV] at rv ru
    subst rv ru
    exact ⟨_, call_min2 hc, _, _, rfl, p.ret r0 (by simp only [RepV])⟩
  · exact p.elim
/-- the least of tuples of ints -/
def asTup : D → Option (List Int)
  | .tup ds => asInts ds
  | _ => none
def asTups : List D → Option (List (List Int))
  | [] => some []
  | d :: ds => (asTup d).bind fun k => (asTups ds).map fun ks => k :: ks
theorem asTups_get : ∀ {ds : List D} {ks : List (List Int)}, asTups ds = some ks → ds = ks.map fun k => .tup (k.map D.int)
  | [], _, h => by simp only [asTups, Option.some.injEq] at h; subst h; rfl
  | d :: ds, _, h => by
    simp only [asTups, Option.bind_eq_some_iff, Option.map_eq_some_iff] at h
    obtain ⟨k, h1, ks, h2, rfl⟩ := h
    cases d with
    | tup es =>
      simp only [asTup] at h1
      rw [List.map_cons, asTups_get h2, asInts_eq h1]
    | _ => simp [asTup] at h1
@[simp] theorem asTups_map (ks : List (List Int)) : asTups (ks.map fun k => .tup (k.map D.int)) = some ks := by
  induction ks with
  | nil => rfl
  | cons k ks ih => simp only [List.map_cons, asTups, asTup, asInts_map, ih, Option.bind_some, Option.map_some]
def minTD (ds : List D) (M : Mem) : Res D := match ds with
  | [x] => match seqOf M x with
    | some es => match asTups es with
      | some ks => match es[bestAt ks]? with
        | some d => .ok d M
        | none => .bad
      | none => .bad
    | none => .bad
  | _ => .bad
theorem cs_minT (hc : X.calm = true) (hu : X.A.units + 2 < cLine) : CallS X E (.builtin "min") minTD := by
  intro k H M ds vs r0 rl Q p
  unfold minTD at p
  split at p
  · rename_i x
    split at p
    · rename_i es hx
      split at p
      · rename_i ks hk
        split at p
        · rename_i d hd
          obtain ⟨v, rfl, rv⟩ := rl.one
          obtain ⟨a, xs, rfl, hs, rx⟩ := seq_view r0 hx rv
          have he := asTups_get hk
          have hl : xs.length = ks.length := by rw [rx.length, he, List.length_map]
          refine ⟨_, cr_minT hc hu, a, xs, ks, rfl, hs, ⟨hl, fun i z k' hz hk' => ?_⟩, ?_, fun z hz => ?_⟩
          · have h1 : es[i]? = some (.tup (k'.map D.int)) := by rw [he, List.getElem?_map, hk']; rfl
            obtain ⟨y, hy, ry⟩ := rx.get h1
            rw [hz] at hy
            cases hy
            simp only [RepV] at ry
            obtain ⟨t, ys, rfl, ht, rt⟩ := ry
            rw [rt.ints] at ht
            exact ⟨t, rfl, seqT_same r0.ex ht⟩
          · cases ks with
            | nil => rw [he] at hd; simp at hd
            | cons _ _ => simp
          · obtain ⟨y, hy, ry⟩ := rx.get hd
            rw [hz] at hy
            cases hy
            exact p.ret r0 ry
        · exact p.elim
      · exact p.elim
    · exact p.elim
  · exact p.elim
/-- all, any, sum over a list -/
def allD (ds : List D) (M : Mem) : Res D := match ds with
  | [x] => match lstOf M x with
    | some es => match asBools es with
      | some bs => .ok (.bl (bs.all id)) M
      | none => .bad
    | none => .bad
  | _ => .bad
def anyD (ds : List D) (M : Mem) : Res D := match ds with
  | [x] => match lstOf M x with
    | some es => match asBools es with
      | some bs => .ok (.bl (bs.any id)) M
      | none => .bad
    | none => .bad
  | _ => .bad
def sumD (ds : List D) (M : Mem) : Res D := match ds with
  | [x] => match lstOf M x with
    | some es => match asInts es with
      | some bs => .ok (.int bs.sum) M
      | none => .bad
    | none => .bad
  | _ => .bad
theorem cs_all (hc : X.calm = true) : CallS X E (.builtin "all") allD := by
  intro k H M ds vs r0 rl Q p
  unfold allD at p
  split at p
  · split at p
    · rename_i es hx
      split at p
      · rename_i bs hb
        obtain ⟨v, rfl, rv⟩ := rl.one
        obtain ⟨a, xs, rfl, hs, rx⟩ := lst_view r0 hx rv
        rw [asBools_eq hb] at rx
        rw [rx.bools] at hs
        exact ⟨_, cr_all hc, a, bs, rfl, hs, p.ret r0 (by simp only [RepV])⟩
      · exact p.elim
    · exact p.elim
  · exact p.elim
theorem cs_any (hc : X.calm = true) : CallS X E (.builtin "any") anyD := by
  intro k H M ds vs r0 rl Q p
  unfold anyD at p
  split at p
  · split at p
    · rename_i es hx
      split at p
      · rename_i bs hb
        obtain ⟨v, rfl, rv⟩ := rl.one
        obtain ⟨a, xs, rfl, hs, rx⟩ := lst_view r0 hx rv
        rw [asBools_eq hb] at rx
        rw [rx.bools] at hs
        exact ⟨_, cr_any hc, a, bs, rfl, hs, p.ret r0 (by simp only [RepV])⟩
      · exact p.elim
    · exact p.elim
  · exact p.elim
theorem cs_sum (hc : X.calm = true) : CallS X E (.builtin "sum") sumD := by
  intro k H M ds vs r0 rl Q p
  unfold sumD at p
  split at p
  · split at p
    · rename_i es hx
      split at p
      · rename_i bs hb
        obtain ⟨v, rfl, rv⟩ := rl.one
        obtain ⟨a, xs, rfl, hs, rx⟩ := lst_view r0 hx rv
        rw [asInts_eq hb] at rx
        rw [rx.ints] at hs
        exact ⟨_, cr_sum hc, a, bs, rfl, hs, p.ret r0 (by simp only [RepV])⟩
      · exact p.elim
    · exact p.elim
  · exact p.elim
/-- tuple(x), list(x) -/
def tupleD (ds : List D) (M : Mem) : Res D := match ds with
  | [.tup es] => .ok (.tup es) M
  | [x] => match lstOf M x with
    | some es => .ok (.tup es) M
    | none => .bad
  | _ => .bad
theorem cs_tuple : CallS X E (.type "tuple") tupleD := by
  intro k H M ds vs r0 rl Q p
  unfold tupleD at p
  split at p
  · obtain ⟨v, rfl, rv⟩ := rl.one
    have rv' := rv
    simp only [RepV] at rv
    obtain ⟨a, xs, rfl, hs, rx⟩ := rv
    exact ⟨_, call_tuple_of, a, xs, rfl, .inr ⟨seqT_same r0.ex hs, p.ret r0 rv'⟩⟩
  · rename_i x _
    split at p
    · rename_i es hx
      obtain ⟨v, rfl, rv⟩ := rl.one
      obtain ⟨a, xs, rfl, hs, rx⟩ := lst_view r0 hx rv
      exact ⟨_, call_tuple_of, a, xs, rfl, .inl ⟨hs, fun l hl => PostE.tup p r0 hl rx⟩⟩
    · exact p.elim
  · exact p.elim
def listD (ds : List D) (M : Mem) : Res (List D) := match ds with
  | [x] => match seqOf M x with
    | some es => .ok es M
    | none => .bad
  | _ => .bad
theorem cn_list : CallN X E (.type "list") listD := by
  intro k H M ds vs r0 rl Q p
  unfold listD at p
  split at p
  · split at p
    · rename_i es hx
      obtain ⟨v, rfl, rv⟩ := rl.one
      obtain ⟨a, xs, rfl, hs, rx⟩ := seq_view r0 hx rv
      exact ⟨_, call_list_of, a, xs, rfl, hs, fun l hl => p.new r0 hl rx⟩
    · exact p.elim
  · exact p.elim
/-! ### repr -/
mutual
def D.toE : D → Option PyData
  | .non => some .none
  | .bl b => some (.bool b)
  | .int i => some (.int i)
  | .str s => some (.str s)
  | .tup ds => (D.toEL ds).map .tuple
  | .dic [] [] => some (.dict [])
  | _ => none
def D.toEL : List D → Option (List PyData)
  | [] => some []
  | d :: ds => (D.toE d).bind fun p => (D.toEL ds).map fun ps => p :: ps
end
mutual
theorem RepV.de {K : PySem.W.Frag} {k : Kn} {H : Hp} (e : Same k.H H) : ∀ {d : D} {v : V} {p : PyData}, d.toE = some p → RepV K k d v → De K H v p
  | .non, _, _, h, r => by
    simp only [RepV] at r; simp only [D.toE, Option.some.injEq] at h; subst r h; exact .non
  | .bl b, _, _, h, r => by
    simp only [RepV] at r; simp only [D.toE, Option.some.injEq] at h; subst r h; exact .bl b
  | .int i, _, _, h, r => by
    simp only [RepV] at r; simp only [D.toE, Option.some.injEq] at h; subst r h; exact .int i
  | .str s, _, _, h, r => by
    simp only [RepV] at r; simp only [D.toE, Option.some.injEq] at h; subst r h; exact .str s
  | .tup ds, _, _, h, r => by
    simp only [RepV] at r
    simp only [D.toE, Option.map_eq_some_iff] at h
    obtain ⟨a, xs, rfl, hs, rl⟩ := r
    obtain ⟨ps, hp, rfl⟩ := h
    exact .tup (seqT_same e hs) (RepL.de e hp rl)
  | .lst ds, _, _, h, _ => by simp only [D.toE] at h; cases h
  | .dic [] [], _, _, h, r => by
    simp only [RepV, RepL] at r
    simp only [D.toE, Option.some.injEq] at h
    obtain ⟨a, xs, rfl, hs, _, rfl⟩ := r
    subst h
    exact .dic (e _ _ hs)
  | .dic (_ :: _) _, _, _, h, _ => by simp only [D.toE] at h; cases h
  | .dic [] (_ :: _), _, _, h, _ => by simp only [D.toE] at h; cases h
  | .ref _, _, _, h, _ => by simp only [D.toE] at h; cases h
theorem RepL.de {K : PySem.W.Frag} {k : Kn} {H : Hp} (e : Same k.H H) : ∀ {ds : List D} {xs : List V} {ps : List PyData}, D.toEL ds = some ps → RepL K k ds xs → DeAll K H xs ps
  | [], _, _, h, r => by
    simp only [RepL] at r; simp only [D.toEL, Option.some.injEq] at h; subst r h; exact .nil
  | d :: ds, _, _, h, r => by
    simp only [RepL] at r
    simp only [D.toEL, Option.bind_eq_some_iff, Option.map_eq_some_iff] at h
    obtain ⟨x, rr, rfl, r1, r2⟩ := r
    obtain ⟨p, h1, ps, h2, rfl⟩ := h
    exact .cons (RepV.de e h1 r1) (RepL.de e h2 r2)
end
/-- the data that repr shows -/
def shownD (M : Mem) (d : D) : Option PyData := match toPM M d with
  | some p => some p
  | none => d.toE
def reprD (ds : List D) (M : Mem) : Res D := match ds with
  | [x] => match shownD M x with
    | some p => if p.showable = true ∧ p.depth ≤ 60 ∧ p.shown.length ≤ sizeLine then .ok (.str p.shown) M else .bad
    | none => .bad
  | _ => .bad
theorem cs_repr (hg : X.A.guards = some []) (hu : X.A.units + 70 < cLine) : CallS X E (.builtin "repr") reprD := by
  intro k H M ds vs r0 rl Q p
  unfold reprD at p
  split at p
  · rename_i x
    split at p
    · rename_i q hq
      split at p
      · rename_i hb
        obtain ⟨v, rfl, rv⟩ := rl.one
        refine ⟨_, call_reprD hg hu, v, q, rfl, ?_, hb.1, hb.2.1, hb.2.2, p.ret r0 (by simp only [RepV])⟩
        unfold shownD at hq
        split at hq
        · rename_i p' hp'
          cases hq
          exact .inl (toPM_dp r0 hp' rv)
        · exact .inr (RepV.de r0.ex hq rv)
      · exact p.elim
    · exact p.elim
  · exact p.elim
end
/-! ### isinstance -/
def tyOf (M : Mem) : D → Option String
  | .non => some "NoneType"
  | .bl _ => some "bool"
  | .int _ => some "int"
  | .str _ => some "str"
  | .tup _ => some "tuple"
  | .lst _ => some "list"
  | .dic _ _ => some "dict"
  | .ref n => match M[n]? with
    | some (.lst _) => some "list"
    | some (.dic _) => some "dict"
    | none => none
/-- bool is an int -/
def subTy (a b : String) : Bool := a == b || (a == "bool" && b == "int")
def isiD (T : String) (d : D) (M : Mem) : Res D := match tyOf M d with
  | some t => .ok (.bl (subTy t T)) M
  | none => .bad
section
variable {X : Cx} {E : L2.XK}
theorem tyx_of {k : Kn} {H : Hp} {M : Mem} {d : D} {v : V} {t : String} (r0 : Rel0 X.K k H M) (rv : RepV X.K k d v) (h : tyOf M d = some t) : TyX X.K H v (.type t) := by
  have lists : ∀ a xs, SqL X.K H a xs → TyX X.K H (.ref a) (.type "list") := by
    intro a xs hs
    rcases hs with (hs | ⟨o, hs⟩) | ⟨o, its, n, hk, hc, _⟩
    · exact .base (.lst hs)
    · exact .base (.frz hs)
    · exact .kList hk hc
  cases d with
  | non => simp only [RepV] at rv; simp only [tyOf, Option.some.injEq] at h; subst rv h; exact .base .non
  | bl b => simp only [RepV] at rv; simp only [tyOf, Option.some.injEq] at h; subst rv h; exact .base (.bl b)
  | int b => simp only [RepV] at rv; simp only [tyOf, Option.some.injEq] at h; subst rv h; exact .base (.int b)
  | str b => simp only [RepV] at rv; simp only [tyOf, Option.some.injEq] at h; subst rv h; exact .base (.str b)
  | tup ds =>
    simp only [RepV] at rv; simp only [tyOf, Option.some.injEq] at h
    subst h
    obtain ⟨a, xs, rfl, hs, _⟩ := rv
    rcases seqT_same r0.ex hs with (hs | ⟨o, hs⟩) | ⟨o, its, n, hk, hc, _⟩
    · exact .base (.tup hs)
    · exact .fTuple hs
    · exact .kTuple hk hc
  | lst ds =>
    simp only [RepV] at rv; simp only [tyOf, Option.some.injEq] at h
    subst h
    obtain ⟨a, xs, rfl, hs, _⟩ := rv
    exact lists a xs (r0.ex.seq hs)
  | dic ks ds =>
    simp only [RepV] at rv; simp only [tyOf, Option.some.injEq] at h
    subst h
    obtain ⟨a, xs, rfl, hs, _⟩ := rv
    exact .base (.dK (r0.ex _ _ hs))
  | ref n =>
    simp only [RepV] at rv
    obtain ⟨a, rfl, ha⟩ := rv
    simp only [tyOf] at h
    split at h
    · rename_i es hM
      cases h
      obtain ⟨xs, e1, _⟩ := r0.obj n a _ ha hM
      exact .base (.lst e1)
    · rename_i es hM
      cases h
      obtain ⟨xs, e1, _⟩ := r0.obj n a _ ha hM
      exact .base (.dK e1)
    · cases h
/-- the types that a value may have here -/
def ourTy (t : String) : Bool := t == "NoneType" || t == "bool" || t == "int" || t == "str" || t == "tuple" || t == "list" || t == "dict"
theorem tyOf_our {M : Mem} {d : D} {t : String} (h : tyOf M d = some t) : ourTy t = true := by
  cases d <;> simp only [tyOf, Option.some.injEq] at h <;> first
    | (subst h; decide)
    | (split at h <;> first | (cases h; decide) | cases h)
/-- the answers for one class, each by the kernel -/
def KitOk (T : String) : Prop := ∀ t, ourTy t = true → kitB t T = some (subTy t T)
theorem kit_mk {T : String} (h : (["NoneType", "bool", "int", "str", "tuple", "list", "dict"].all fun t => decide (kitB t T = some (subTy t T))) = true) : KitOk T := by
  intro t ht
  have h' := List.all_eq_true.mp h t (by
    simp only [ourTy, Bool.or_eq_true, beq_iff_eq] at ht
    simp only [List.mem_cons, List.not_mem_nil, or_false]
    rcases ht with (((((h | h) | h) | h) | h) | h) | h <;> simp [h])
  exact of_decide_eq_true h'
theorem kit_int : KitOk "int" := kit_mk (by decide +kernel)
theorem kit_bool : KitOk "bool" := kit_mk (by decide +kernel)
theorem kit_str : KitOk "str" := kit_mk (by decide +kernel)
theorem kit_tuple : KitOk "tuple" := kit_mk (by decide +kernel)
theorem kit_list : KitOk "list" := kit_mk (by decide +kernel)
theorem kit_dict : KitOk "dict" := kit_mk (by decide +kernel)
theorem xe_isi {e : Expr} {f : SemE} {T : String} {x : Str} {p p2 pos : Pos} (kit : KitOk T) (hg : Gl X "isinstance") (hm : X.mg "isinstance" = none) (hgT : Gl X x) (hmT : X.mg x = none) (hvT : bootBuiltins x = some (.type T)) (h : XE X E e f)
    (hn : x ≠ "__name__" := by decide) (hdb : (x == ("__debug__" : Str)) = false := by decide)
    (he2 : starEach [.Name x p2] X.env = (false, eval (.Name x p2) X.env) :: starEach [] X.env := by rfl) (he : starEach (e :: [.Name x p2]) X.env = (false, eval e X.env) :: starEach [.Name x p2] X.env := by rfl)
    (hpl : (backTo pos (starEach [.Name x p2] X.env)).any (·.1) = false := by rfl) : XE X E (.Call (.Name "isinstance" p) [e, .Name x p2] [] pos) (c1 (isiD T) f) := by
  refine ⟨fun k σ H ρ M re r0 Q q => ⟨_, pe_callB call_isi hg hm (by decide +kernel) (pa_cons pe_we (pa_cons (pe_bltn (v := .ty T) hgT hmT hvT rfl hn hdb) pa_nil he2) he) (he := he) (hpl := hpl), ?_⟩⟩
  refine h.run k σ H ρ M re r0 _ (Post.bind q fun d M1 k1 v H1 s1 r1 q1 p1 => ?_)
  unfold isiD at p1
  cases ht : tyOf M1 d with
  | none => rw [ht] at p1; exact p1.elim
  | some t =>
    rw [ht] at p1
    exact ⟨v, .ty T, .type t, .type T, subTy t T, rfl, .ty T, tyx_of r1 q1 ht, kit_ty (kit t (tyOf_our ht)), p1.ret r1 (by simp only [RepV])⟩
end
end G
set_option maxHeartbeats 2000000
namespace G
open PySem PySem.Spec PyProof.Rows L2
/-! ### slices -/
def cutD (xs : List D) (lo hi : Option Int) : List D := (xs.drop (HT.sIx xs.length 0 lo)).take (HT.sIx xs.length xs.length hi - HT.sIx xs.length 0 lo)
theorem RepL.cut' {K : PySem.W.Frag} {k : Kn} {ds : List D} {xs : List V} (r : RepL K k ds xs) (lo hi : Option Int) : RepL K k (cutD ds lo hi) (cutV xs lo hi) := by
  unfold cutD cutV
  rw [r.length]
  exact (r.drop _).take _
theorem RepL.rev {K : PySem.W.Frag} {k : Kn} : ∀ {ds : List D} {xs : List V}, RepL K k ds xs → RepL K k ds.reverse xs.reverse
  | [], _, h => by simp only [RepL] at h; subst h; exact RepL.nil
  | d :: ds, _, h => by
    simp only [RepL] at h
    obtain ⟨x, r, rfl, h1, h2⟩ := h
    rw [List.reverse_cons, List.reverse_cons]
    exact (RepL.rev h2).append (RepL.cons h1 RepL.nil)
abbrev SemO := Env → Mem → Res (Option Int)
abbrev RO : Kn → Option Int → Option Int → Prop := fun _ a b => a = b
def WO (X : Cx) (e : Option Expr) : TO := fun σ H Q => ∃ t, PO X e t ∧ t σ H Q
theorem po_wo {X : Cx} {e : Option Expr} : PO X e (WO X e) := ⟨fun pins s σ H Q I ⟨_, h, q⟩ => h.run pins s σ H Q I q⟩
structure XO (X : Cx) (E : L2.XK) (e : Option Expr) (f : SemO) : Prop where
  run : ∀ k σ H ρ M, RelE X.K k σ ρ → Rel0 X.K k H M → ∀ Q : Option Int → Hp → Prop, Post X.K X.mg E RO k H (f ρ M) Q → WO X e σ H Q
def cNoP : SemO := fun _ M => .ok none M
def asInt : D → Mem → Res (Option Int)
  | .int i, M => .ok (some i) M
  | _, _ => .bad
def cPart (f : SemE) : SemO := fun ρ M => (f ρ M).bind asInt
section
variable {X : Cx} {E : L2.XK} {e : Expr} {fe : SemE} {lo hi : Option Expr} {fl fh : SemO} {pos p2 : Pos}
theorem xo_none : XO X E none cNoP := ⟨fun k σ H ρ M re r0 Q p => ⟨_, po_none, p.ret r0 rfl⟩⟩
theorem xo_some (h : XE X E e fe) : XO X E (some e) (cPart fe) := by
  refine ⟨fun k σ H ρ M re r0 Q p => ⟨_, po_some pe_we, ?_⟩⟩
  refine h.run k σ H ρ M re r0 _ (Post.bind p fun d M1 k1 v H1 s1 r1 q1 p1 => ?_)
  cases d with
  | int i =>
    simp only [RepV] at q1
    subst q1
    exact ⟨i, rfl, p1.ret r1 rfl⟩
  | _ => exact p1.elim
/-- a new list from a list -/
def cSlN (fe : SemE) (fl fh : SemO) : SemN := fun ρ M => (fe ρ M).bind fun d M1 => (fl ρ M1).bind fun l M2 => (fh ρ M2).bind fun h M3 => match lstOf M3 d with
  | some ds => .ok (cutD ds l h) M3
  | none => .bad
theorem xn_slice (he : XE X E e fe) (hl : XO X E lo fl) (hh : XO X E hi fh) : XN X E (.Subscript e (.Slice lo hi none p2) pos) (cSlN fe fl fh) := by
  refine ⟨fun k σ H ρ M re r0 Q p => ⟨_, pe_slice sl_list pe_we po_wo po_wo, ?_⟩⟩
  refine he.run k σ H ρ M re r0 _ (PostN.bind p fun d M1 k1 v H1 s1 r1 q1 p1 => ?_)
  refine hl.run k1 σ H1 ρ M1 (re.mono s1.le) r1 _ (PostN.bind p1 fun l M2 k2 l' H2 s2 r2 q2 p2 => ?_)
  refine hh.run k2 σ H2 ρ M2 (re.mono (s1.trans s2).le) r2 _ (PostN.bind p2 fun h M3 k3 h' H3 s3 r3 q3 p3 => ?_)
  cases q2
  cases q3
  split at p3
  · rename_i ds hd
    obtain ⟨a, xs, rfl, hs, rl⟩ := lst_view r3 hd (q1.mono (s2.trans s3).le)
    exact ⟨a, xs, rfl, hs, fun p hp => p3.new r3 hp (rl.cut' _ _)⟩
  · exact p3.elim
/-- of a tuple, a text, a list (which is known then) -/
def sliceD (d : D) (l h : Option Int) (M : Mem) : Res D := match d with
  | .tup ds => .ok (.tup (cutD ds l h)) M
  | .str s => if s.length ≤ 1000000 then .ok (.str (cutS s l h)) M else .bad
  | d => match lstOf M d with
    | some ds => .ok (.lst (cutD ds l h)) M
    | none => .bad
def cSl (fe : SemE) (fl fh : SemO) : SemE := fun ρ M => (fe ρ M).bind fun d M1 => (fl ρ M1).bind fun l M2 => (fh ρ M2).bind fun h M3 => sliceD d l h M3
theorem cut_all {α : Type} (xs : List α) {a b : Nat} (h1 : a = 0) (h2 : b = xs.length) : (xs.drop a).take (b - a) = xs := by
  subst h1 h2
  simp
/-- a new list laid down and known at once -/
theorem PostE.lst {k : Kn} {H : Hp} {M : Mem} {Q : VK} {ds : List D} {xs : List V} {a : Addr} (h : PostE X E k H (.ok (.lst ds) M) Q) (r : Rel0 X.K k H M) (hp : H a = none) (q : RepL X.K k ds xs) : Q (.ref a) (upd H a (.lst xs)) := by
  have h1 := (r.free hp).1
  refine h ⟨upd k.H a (.lst xs), k.ι⟩ (.ref a) _ ((Stp.new hp).frz hp h1) ((r.new hp).frz upd_same h1 (r.free hp).2) ?_
  simp only [RepV]
  exact ⟨a, xs, rfl, SqL.of upd_same, q.mono (kle_frz h1)⟩
theorem xe_slice (he : XE X E e fe) (hl : XO X E lo fl) (hh : XO X E hi fh) : XE X E (.Subscript e (.Slice lo hi none p2) pos) (cSl fe fl fh) := by
  refine ⟨fun k σ H ρ M re r0 Q p => ⟨_, pe_slice (.or sl_tupA (.or sl_list sl_str)) pe_we po_wo po_wo, ?_⟩⟩
  refine he.run k σ H ρ M re r0 _ (Post.bind p fun d M1 k1 v H1 s1 r1 q1 p1 => ?_)
  refine hl.run k1 σ H1 ρ M1 (re.mono s1.le) r1 _ (Post.bind p1 fun l M2 k2 l' H2 s2 r2 q2 p2 => ?_)
  refine hh.run k2 σ H2 ρ M2 (re.mono (s1.trans s2).le) r2 _ (Post.bind p2 fun h M3 k3 h' H3 s3 r3 q3 p3 => ?_)
  cases q2
  cases q3
  have q1' := q1.mono (s2.trans s3).le
  have lists : ∀ ds, lstOf M3 d = some ds → PostE X E k3 H3 (.ok (.lst (cutD ds l h)) M3) Q → rSlL X.K v l h H3 Q := by
    intro ds hd p4
    obtain ⟨a, xs, rfl, hs, rl⟩ := lst_view r3 hd q1'
    exact ⟨a, xs, rfl, hs, fun p hp => PostE.lst p4 r3 hp (rl.cut' _ _)⟩
  cases d with
  | tup ds =>
    simp only [RepV] at q1'
    obtain ⟨a, xs, rfl, hs, rl⟩ := q1'
    refine .inl ⟨a, xs, rfl, seqT_same r3.ex hs, fun hw => ?_, fun hw p hp => ?_⟩
    · have e1 : cutD ds l h = ds := by
        have hlen := rl.length
        unfold cutD
        exact cut_all ds (by rw [← hlen]; exact hw.1) (by rw [← hlen]; exact hw.2)
      have p4 : PostE X E k3 H3 (.ok (.tup (cutD ds l h)) M3) Q := p3
      rw [e1] at p4
      refine p4.ret r3 ?_
      simp only [RepV]
      exact ⟨a, xs, rfl, hs, rl⟩
    · exact PostE.tup p3 r3 hp (rl.cut' _ _)
  | str s =>
    simp only [RepV] at q1'
    subst q1'
    simp only [sliceD] at p3
    split at p3
    · rename_i hz
      exact .inr (.inr ⟨s, rfl, small_line hz, p3.ret r3 (by simp only [RepV])⟩)
    · exact p3.elim
  | lst ds => exact .inr (.inl (lists ds rfl p3))
  | ref n =>
    simp only [sliceD] at p3
    split at p3
    · rename_i ds hd
      exact .inr (.inl (lists ds hd p3))
    · exact p3.elim
  | _ => exact p3.elim
/-- x[::-1] -/
def cRevN (fe : SemE) : SemN := fun ρ M => (fe ρ M).bind fun d M1 => match lstOf M1 d with
  | some ds => .ok ds.reverse M1
  | none => .bad
theorem xn_rev {k : Nat} {p1 p2 p3 : Pos} (he : XE X E e fe) : XN X E (.Subscript e (.Slice none none (some (.UnaryOp .USub (.Constant (.int 1) k p1) p2)) p3) pos) (cRevN fe) := by
  refine ⟨fun k σ H ρ M re r0 Q p => ⟨_, pe_revL pe_we, ?_⟩⟩
  refine he.run k σ H ρ M re r0 _ (PostN.bind p fun d M1 k1 v H1 s1 r1 q1 p1 => ?_)
  split at p1
  · rename_i ds hd
    obtain ⟨a, xs, rfl, hs, rl⟩ := lst_view r1 hd q1
    exact ⟨a, xs, rfl, hs, fun p hp => p1.new r1 hp rl.rev⟩
  · exact p1.elim
def revD (d : D) (M : Mem) : Res D := match d with
  | .tup ds => .ok (.tup ds.reverse) M
  | d => match lstOf M d with
    | some ds => .ok (.lst ds.reverse) M
    | none => .bad
theorem xe_rev {k : Nat} {p1 p2 p3 : Pos} (he : XE X E e fe) : XE X E (.Subscript e (.Slice none none (some (.UnaryOp .USub (.Constant (.int 1) k p1) p2)) p3) pos) (c1 revD fe) := by
  refine ⟨fun k σ H ρ M re r0 Q p => ?_⟩
  by_cases ht : ∃ ds M1, fe ρ M = .ok (.tup ds) M1
  · obtain ⟨ds, M1, hf⟩ := ht
    refine ⟨_, pe_revT pe_we, he.run k σ H ρ M re r0 _ ?_⟩
    unfold c1 at p
    rw [hf] at p ⊢
    intro k1 v H1 s1 r1 q1
    simp only [RepV] at q1
    obtain ⟨a, xs, rfl, hs, rl⟩ := q1
    exact ⟨a, xs, rfl, seqT_same r1.ex hs, fun q hq => PostE.tup (Post.step s1 p) r1 hq rl.rev⟩
  · refine ⟨_, pe_revL pe_we, he.run k σ H ρ M re r0 _ ?_⟩
    unfold c1 at p
    cases hf : fe ρ M with
    | bad => rw [hf] at p; exact p
    | exc c x M1 => rw [hf] at p; exact p
    | ok d M1 =>
      rw [hf] at p
      intro k1 v H1 s1 r1 q1
      have p' := Post.step s1 p
      have lists : ∀ ds, lstOf M1 d = some ds → PostE X E k1 H1 (.ok (.lst ds.reverse) M1) Q → ∃ a xs, v = .ref a ∧ SqL X.K H1 a xs ∧ ∀ p, H1 p = none → Q (.ref p) (upd H1 p (.lst xs.reverse)) := by
        intro ds hd p4
        obtain ⟨a, xs, rfl, hs, rl⟩ := lst_view r1 hd q1
        exact ⟨a, xs, rfl, hs, fun p hp => PostE.lst p4 r1 hp rl.rev⟩
      cases d with
      | tup ds => exact absurd ⟨ds, M1, hf⟩ ht
      | lst ds => exact lists ds rfl p'
      | ref n =>
        simp only [Res.bind_ok, revD] at p'
        split at p'
        · rename_i ds hd
          exact lists ds hd p'
        · exact p'.elim
      | _ => exact p'.elim
end
/-! ### a + b of lists -/
section
variable {X : Cx} {E : L2.XK} {a b : Expr} {fa fb : SemE} {pos : Pos}
def rCatS (K : PySem.W.Frag) : R2 := fun x y H Q => ∃ l b xs zs, x = .ref l ∧ y = .ref b ∧ SqL K H l xs ∧ SqL K H b zs ∧ xs.length + zs.length ≤ sizeLine ∧ ∀ p, H p = none → Q (.ref p) (upd H p (.lst (xs ++ zs)))
theorem op_catS : OpR X (binaryOp .Add) (rCatS X.K) := by
  intro pins s σ H x y v u Q I rx ry h
  obtain ⟨l, b, xs, zs, rfl, rfl, hH, hB, hz, q⟩ := h
  cases rx
  cases ry
  obtain ⟨its, r, pl, z1⟩ := I.list hH
  obtain ⟨its2, r2, pl2, z2⟩ := I.list hB
  have h1 := r.length
  have h2 := r2.length
  obtain ⟨⟨cls, dd, data, sl⟩, ho, hc, n, hd⟩ := pl.isList
  obtain ⟨⟨cls2, dd2, data2, sl2⟩, ho2, hc2, n2, hd2⟩ := pl2.isList
  simp only at hc hd hc2 hd2
  subst hc hd hc2 hd2
  refine concat_meets ⟨_, ho, rfl⟩ ⟨_, ho2, rfl⟩ noFill_list_add seq_list_add PySem.F.slot_list_add PySem.F.entry_list_add (PySem.F.args_list_add_2 _ _)
    (list_addW l b its.toArray its2.toArray n n2 dd dd2 sl sl2 (by simp only [List.size_toArray]; omega)) ⟨ho, ho2, ?_⟩
  have ea : its.toArray ++ its2.toArray = (its ++ its2).toArray := by simp
  rw [ea]
  exact ⟨.ref _, _, I.lnew (t' := s.toks) (r.append r2) (by rw [List.length_append]; omega), rfl, q _ I.fresh⟩
def cCatN (fa fb : SemE) : SemN := fun ρ M => (fa ρ M).bind fun a M1 => (fb ρ M1).bind fun b M2 => match lstOf M2 a, lstOf M2 b with
  | some xs, some ys => if xs.length + ys.length ≤ 1000000 then .ok (xs ++ ys) M2 else .bad
  | _, _ => .bad
theorem xn_cat (ha : XE X E a fa) (hb : XE X E b fb) : XN X E (.BinOp a .Add b pos) (cCatN fa fb) := by
  refine ⟨fun k σ H ρ M re r0 Q p => ⟨_, pe_op op_catS pe_we pe_we, ?_⟩⟩
  refine ha.run k σ H ρ M re r0 _ (PostN.bind p fun x M1 k1 v H1 s1 r1 q1 p1 => ?_)
  refine hb.run k1 σ H1 ρ M1 (re.mono s1.le) r1 _ (PostN.bind p1 fun y M2 k2 u H2 s2 r2 q2 p2 => ?_)
  split at p2
  · rename_i xs ys hx hy
    split at p2
    · rename_i hz
      obtain ⟨a1, vs, rfl, hs, rl⟩ := lst_view r2 hx (q1.mono s2.le)
      obtain ⟨b1, us, rfl, ht, rm⟩ := lst_view r2 hy q2
      exact ⟨a1, b1, vs, us, rfl, rfl, hs, ht, by rw [rl.length, rm.length]; exact small_line hz, fun p hp => p2.new r2 hp (rl.append rm)⟩
    · exact p2.elim
  · exact p2.elim
/-! ### in, not in -/
def flatD : D → Bool
  | .non | .bl _ | .int _ | .str _ => true
  | _ => false
def eqF : D → D → Bool
  | .non, .non => true
  | .bl a, .bl b => a == b
  | .bl a, .int b => (if a then 1 else 0) == b
  | .int a, .bl b => a == (if b then 1 else 0)
  | .int a, .int b => a == b
  | .str a, .str b => a == b
  | _, _ => false
def memB (x : D) (ds : List D) : Bool := ds.any fun y => eqF y x
/-- flat things in a list or tuple; one sign in a text; data in a list -/
def inB (x y : D) (M : Mem) : Option Bool := match y with
  | .str z => match x with
    | .str c => match c.cps.toList with
      | [n] => some (decide (n ∈ z.cps.toList))
      | _ => none
    | _ => none
  | y => match seqOf M y with
    | some ds => if flatD x && ds.all flatD then some (memB x ds) else match toPM M x, toPM M y with
      | some p, some (.list ps) => if SeqAt.shaped p && SeqAt.shaped (.list ps) then some (ps.any fun z => PyData.eqv z p) else none
      | _, _ => none
    | none => none
def inD (x y : D) (M : Mem) : Res D := match inB x y M with
  | some c => .ok (.bl c) M
  | none => .bad
def notInD (x y : D) (M : Mem) : Res D := match inB x y M with
  | some c => .ok (.bl (!c)) M
  | none => .bad
theorem flat_rep {K : PySem.W.Frag} {k : Kn} {d : D} {v : V} (h : flatD d = true) (r : RepV K k d v) : flatV v = true := by
  cases d <;> simp only [flatD, Bool.false_eq_true] at h <;> (simp only [RepV] at r; subst r; rfl)
theorem flat_repL {K : PySem.W.Frag} {k : Kn} : ∀ {ds : List D} {vs : List V}, ds.all flatD = true → RepL K k ds vs → vs.all flatV = true
  | [], _, _, r => by simp only [RepL] at r; subst r; rfl
  | d :: ds, _, h, r => by
    simp only [RepL] at r
    obtain ⟨x, rr, rfl, r1, r2⟩ := r
    rw [List.all_cons, Bool.and_eq_true] at h ⊢
    exact ⟨flat_rep h.1 r1, flat_repL h.2 r2⟩
theorem eqF_rep {K : PySem.W.Frag} {k : Kn} {d e : D} {v u : V} (hd : flatD d = true) (he : flatD e = true) (r1 : RepV K k d v) (r2 : RepV K k e u) : eqF d e = eqV v u := by
  cases d <;> simp only [flatD, Bool.false_eq_true] at hd <;> cases e <;> simp only [flatD, Bool.false_eq_true] at he <;> (simp only [RepV] at r1 r2; subst r1 r2; rfl)
theorem mem_rep {K : PySem.W.Frag} {k : Kn} {d : D} {v : V} (hd : flatD d = true) (r : RepV K k d v) : ∀ {ds : List D} {vs : List V}, ds.all flatD = true → RepL K k ds vs → memB d ds = inV v vs
  | [], _, _, q => by simp only [RepL] at q; subst q; rfl
  | e :: ds, _, h, q => by
    simp only [RepL] at q
    obtain ⟨x, rr, rfl, r1, r2⟩ := q
    rw [List.all_cons, Bool.and_eq_true] at h
    have ih := mem_rep hd r h.2 r2
    unfold memB inV at ih ⊢
    rw [List.any_cons, List.any_cons, eqF_rep h.1 hd r1 r, ih]
theorem in_run {op : CmpOp} {neg : Bool} (h1 : OpR X (compareOp op) (rIn X.K neg)) (h2 : OpR X (compareOp op) (fun x y H Q => ∃ (c : Nat) (z : Str), x = .str ⟨#[c]⟩ ∧ y = .str z ∧ Q (.bl (if neg then !decide (c ∈ z.cps.toList) else decide (c ∈ z.cps.toList))) H))
    (h3 : OpR X (compareOp op) (fun x y H Q => ∃ d ds, Dp X.K H x d ∧ Dp X.K H y (.list ds) ∧ SeqAt.shaped d = true ∧ SeqAt.shaped (.list ds) = true ∧ Q (.bl (if neg then !(ds.any fun z => PyData.eqv z d) else (ds.any fun z => PyData.eqv z d))) H))
    {k : Kn} {H : Hp} {M : Mem} {x y : D} {v u : V} {c : Bool} (r0 : Rel0 X.K k H M) (rx : RepV X.K k x v) (ry : RepV X.K k y u) (h : inB x y M = some c) {Q : VK} (q : Q (.bl (if neg then !c else c)) H) : WOp X (compareOp op) v u H Q := by
  have lists : (match seqOf M y with
      | some ds => if flatD x && ds.all flatD then some (memB x ds) else match toPM M x, toPM M y with
        | some p, some (.list ps) => if SeqAt.shaped p && SeqAt.shaped (.list ps) then some (ps.any fun z => PyData.eqv z p) else none
        | _, _ => none
      | none => none) = some c → WOp X (compareOp op) v u H Q := by
    intro h
    split at h
    · rename_i ds hds
      split at h
      · rename_i hf
        cases h
        rw [Bool.and_eq_true] at hf
        obtain ⟨a, xs, rfl, hs, rl⟩ := seq_view r0 hds ry
        exact ⟨_, h1, a, xs, rfl, hs, flat_rep hf.1 rx, flat_repL hf.2 rl, by rw [← mem_rep hf.1 rx hf.2 rl]; exact q⟩
      · split at h
        · rename_i p ps hp hps
          split at h
          · rename_i hsh
            cases h
            rw [Bool.and_eq_true] at hsh
            exact ⟨_, h3, p, ps, toPM_dp r0 hp rx, toPM_dp r0 hps ry, hsh.1, hsh.2, q⟩
          · cases h
        · cases h
    · cases h
  cases y with
  | str z =>
    simp only [inB] at h
    split at h
    · rename_i c'
      split at h
      · rename_i n hn
        cases h
        simp only [RepV] at rx ry
        subst rx ry
        have ec : c' = ⟨#[n]⟩ := by
          have : c'.cps = #[n] := by
            have h9 : c'.cps.toList = #[n].toList := by rw [hn]
            exact Array.toList_inj.mp h9
          cases c'
          simp only at this
          rw [this]
        rw [ec]
        exact ⟨_, h2, n, z, rfl, rfl, q⟩
      · cases h
    · cases h
  | non => exact lists h
  | bl _ => exact lists h
  | int _ => exact lists h
  | tup _ => exact lists h
  | lst _ => exact lists h
  | dic _ _ => exact lists h
  | ref _ => exact lists h
theorem os_in (hu : X.A.units + 65 < cLine) : OpS X E (compareOp .In) inD := by
  intro k H M a b x y r0 ra rb Q p
  unfold inD at p
  cases h : inB a b M with
  | none => rw [h] at p; exact p.elim
  | some c =>
    rw [h] at p
    exact in_run (neg := false) op_in_seq op_in_sign (op_inD hu) r0 ra rb h (p.ret r0 (by simp [RepV]))
theorem os_notIn (hu : X.A.units + 65 < cLine) : OpS X E (compareOp .NotIn) notInD := by
  intro k H M a b x y r0 ra rb Q p
  unfold notInD at p
  cases h : inB a b M with
  | none => rw [h] at p; exact p.elim
  | some c =>
    rw [h] at p
    exact in_run (neg := true) op_notIn_seq op_notIn_sign (op_notInD hu) r0 ra rb h (p.ret r0 (by simp [RepV]))
end
end G
set_option maxHeartbeats 2000000
namespace G
open PySem PySem.Spec PyProof.Rows L2
/-! ### lists that change -/
/-- the list at n -/
def lstAt (M : Mem) (n : Nat) : Option (List D) := match M[n]? with
  | some (.lst ds) => some ds
  | _ => none
theorem lstAt_eq {M : Mem} {n : Nat} {ds : List D} (h : lstAt M n = some ds) : M[n]? = some (.lst ds) := by
  unfold lstAt at h
  split at h
  · rename_i es hM
    cases h
    exact hM
  · cases h
def appD (x y : D) (M : Mem) : Res D := match x with
  | .ref n => match lstAt M n with
    | some ds => if ds.length ≤ 1000000 then .ok .non (M.set n (.lst (ds ++ [y]))) else .bad
    | none => .bad
  | _ => .bad
def popD (x : D) (M : Mem) : Res D := match x with
  | .ref n => match lstAt M n with
    | some ds => match ds.getLast? with
      | some y => .ok y (M.set n (.lst ds.dropLast))
      | none => .bad
    | none => .bad
  | _ => .bad
def popAtD (x i : D) (M : Mem) : Res D := match x, i with
  | .ref n, .int z => match lstAt M n with
    | some ds => if ds.length ≤ 1000000 then match ixN ds.length z with
        | some j => match ds[j]? with
          | some y => .ok y (M.set n (.lst (ds.eraseIdx j)))
          | none => .bad
        | none => .bad
      else .bad
    | none => .bad
  | _, _ => .bad
def insD (x i y : D) (M : Mem) : Res D := match x, i with
  | .ref n, .int z => match lstAt M n with
    | some ds => if ds.length ≤ 1000000 ∧ 0 ≤ z ∧ z < 1000000 then .ok .non (M.set n (.lst (ds.take z.toNat ++ [y] ++ ds.drop z.toNat))) else .bad
    | none => .bad
  | _, _ => .bad
/-- o.m(): the object, then a method of a list without arguments; one, two arguments -/
def isLst (d : D) (M : Mem) : Res D := match d with
  | .ref n => match lstAt M n with
    | some _ => .ok d M
    | none => .bad
  | _ => .bad
def cM0 (g : D → Mem → Res D) (fo : SemE) : SemE := fun ρ M => (fo ρ M).bind fun d M1 => (isLst d M1).bind g
def cM1 (g : D → D → Mem → Res D) (fo fa : SemE) : SemE := fun ρ M => (fo ρ M).bind fun d M1 => (isLst d M1).bind fun d M2 => (fa ρ M2).bind fun a M3 => g d a M3
def cM2 (g : D → D → D → Mem → Res D) (fo fa fb : SemE) : SemE := fun ρ M => (fo ρ M).bind fun d M1 => (isLst d M1).bind fun d M2 => (fa ρ M2).bind fun a M3 => (fb ρ M3).bind fun b M4 => g d a b M4
section
variable {X : Cx} {E : L2.XK} {o e e2 : Expr} {fo fa fb : SemE} {apos cpos : Pos}
/-- a list of the store in the heap -/
theorem lst_at {K : PySem.W.Frag} {k : Kn} {H : Hp} {M : Mem} {n : Nat} {v : V} {ds : List D} (r0 : Rel0 K k H M) (rv : RepV K k (.ref n) v) (h : lstAt M n = some ds) : ∃ a xs, v = .ref a ∧ k.ι[n]? = some a ∧ H a = some (.lst xs) ∧ RepL K k ds xs := by
  simp only [RepV] at rv
  obtain ⟨a, rfl, ha⟩ := rv
  obtain ⟨xs, e1, rl⟩ := r0.obj n a _ ha (lstAt_eq h)
  exact ⟨a, xs, rfl, ha, e1, rl⟩
theorem put_lst {k : Kn} {H : Hp} {M : Mem} {n : Nat} {a : Addr} {ds : List D} {xs : List V} {d : D} {v : V} {Q : VK} (p : PostE X E k H (.ok d (M.set n (.lst ds))) Q) (r0 : Rel0 X.K k H M) (ha : k.ι[n]? = some a) (rl : RepL X.K k ds xs) (rv : RepV X.K k d v) : Q v (upd H a (.lst xs)) :=
  p k v _ ((Stp.refl k H).put ha) (r0.put ha ⟨xs, upd_same, rl⟩) rv
/-- the object's reading, its type -/
theorem obj_run (ho : XE X E o fo) {k : Kn} {σ : L2.St} {H : Hp} {ρ : Env} {M : Mem} (re : RelE X.K k σ ρ) (r0 : Rel0 X.K k H M) {g : D → Mem → Res D} {Q : VK} (p : PostE X E k H ((fo ρ M).bind fun d M1 => (isLst d M1).bind g) Q) {R : V → Hp → Prop}
    (h : ∀ n ds M1 k1 v H1, Stp k H k1 H1 → Rel0 X.K k1 H1 M1 → RepV X.K k1 (.ref n) v → lstAt M1 n = some ds → PostE X E k1 H1 (g (.ref n) M1) Q → R v H1) : WE X o σ H fun x H1 => tyV X.K "list" x H1 ∧ R x H1 := by
  refine ho.run k σ H ρ M re r0 _ (Post.bind p fun d M1 k1 v H1 s1 r1 q1 p1 => ?_)
  cases d with
  | ref n =>
    simp only [isLst] at p1
    cases hl : lstAt M1 n with
    | none => rw [hl] at p1; exact p1.elim
    | some ds =>
      rw [hl] at p1
      obtain ⟨a, xs, rfl, ha, e1, rl⟩ := lst_at r1 q1 hl
      exact ⟨.inl ⟨rfl, xs, SqL.of e1⟩, h n ds M1 k1 _ H1 s1 r1 q1 hl p1⟩
  | _ => exact p1.elim
theorem xe_append (ho : XE X E o fo) (ha : XE X E e fa) (hbase : attributeBase o "append" X.env (eval o X.env) = eval o X.env := by rfl)
    (hfew : ((backTo cpos (starEach [e] X.env)).all (fun x => !x.1) && (backToKw cpos (keywordEach [] X.env)).all (fun x => x.1.isSome) && decide (([e] : List Expr).length + ([] : List Keyword).length + (if ([] : List Keyword).isEmpty then 0 else 1) < 30)) = true := by rfl)
    (hline : (apos.endLine == cpos.line) = true := by rfl) (hs : starEach [e] X.env = (false, eval e X.env) :: starEach [] X.env := by rfl) (hplain : (backTo cpos (starEach [] X.env)).any (·.1) = false := by rfl) :
    XE X E (.Call (.Attribute o "append" apos) [e] [] cpos) (cM1 appD fo fa) := by
  refine ⟨fun k σ H ρ M re r0 Q p => ⟨_, pe_bm PySem.F.plainAttrs_list PySem.F.slot_list_append PySem.F.type_list_append mt_append pe_we (pa_cons pe_we pa_nil hs) hbase hfew hline hs hplain, ?_⟩⟩
  refine obj_run ho re r0 p fun n ds M1 k1 v H1 s1 r1 q1 hl p1 => ?_
  refine ha.run k1 σ H1 ρ M1 (re.mono s1.le) r1 _ (Post.bind p1 fun y M2 k2 u H2 s2 r2 q2 p2 => ?_)
  simp only [appD] at p2
  split at p2
  · rename_i ds2 hl2
    split at p2
    · rename_i hz
      obtain ⟨a, xs, e0, ha2, e1, rl⟩ := lst_at r2 (q1.mono s2.le) hl2
      exact ⟨a, xs, u, e0, rfl, e1, by rw [rl.length]; exact big hz, put_lst p2 r2 ha2 (rl.append (RepL.cons q2 RepL.nil)) (by simp only [RepV])⟩
    · exact p2.elim
  · exact p2.elim
theorem xe_pop (ho : XE X E o fo) (hbase : attributeBase o "pop" X.env (eval o X.env) = eval o X.env := by rfl) (hline : (apos.endLine == cpos.line) = true := by rfl) : XE X E (.Call (.Attribute o "pop" apos) [] [] cpos) (cM0 popD fo) := by
  refine ⟨fun k σ H ρ M re r0 Q p => ⟨_, pe_bm0 PySem.F.plainAttrs_list PySem.F.slot_list_pop PySem.F.type_list_pop mt_pop pe_we hbase hline, ?_⟩⟩
  refine obj_run ho re r0 p fun n ds M1 k1 v H1 s1 r1 q1 hl p1 => ?_
  simp only [popD, hl] at p1
  split at p1
  · rename_i y hy
    obtain ⟨a, xs, e0, ha2, e1, rl⟩ := lst_at r1 q1 hl
    have hy' : ds[ds.length - 1]? = some y := by rw [← List.getLast?_eq_getElem?]; exact hy
    obtain ⟨z, hz, rz⟩ := rl.get hy'
    refine ⟨a, xs, z, e0, rfl, e1, by rw [rl.length]; exact hz, put_lst p1 r1 ha2 ?_ rz⟩
    rw [List.dropLast_eq_take, List.dropLast_eq_take, rl.length]
    exact rl.take _
  · exact p1.elim
theorem RepL.erase {K : PySem.W.Frag} {k : Kn} : ∀ {ds : List D} {xs : List V} (i : Nat), RepL K k ds xs → RepL K k (ds.eraseIdx i) (xs.eraseIdx i)
  | [], _, _, h => by simp only [RepL] at h; subst h; simp only [List.eraseIdx_nil]; exact RepL.nil
  | d :: ds, _, 0, h => by
    simp only [RepL] at h
    obtain ⟨x, r, rfl, h1, h2⟩ := h
    exact h2
  | d :: ds, _, i + 1, h => by
    simp only [RepL] at h
    obtain ⟨x, r, rfl, h1, h2⟩ := h
    exact RepL.cons h1 (RepL.erase i h2)
theorem int63 {n : Nat} {z : Int} (h : n ≤ 1000000) (h1 : -(n : Int) ≤ z) (h2 : z < n) : -(2 ^ 63) ≤ z ∧ z < 2 ^ 63 := by omega
theorem xe_popAt (ho : XE X E o fo) (ha : XE X E e fa) (hbase : attributeBase o "pop" X.env (eval o X.env) = eval o X.env := by rfl)
    (hfew : ((backTo cpos (starEach [e] X.env)).all (fun x => !x.1) && (backToKw cpos (keywordEach [] X.env)).all (fun x => x.1.isSome) && decide (([e] : List Expr).length + ([] : List Keyword).length + (if ([] : List Keyword).isEmpty then 0 else 1) < 30)) = true := by rfl)
    (hline : (apos.endLine == cpos.line) = true := by rfl) (hs : starEach [e] X.env = (false, eval e X.env) :: starEach [] X.env := by rfl) (hplain : (backTo cpos (starEach [] X.env)).any (·.1) = false := by rfl) :
    XE X E (.Call (.Attribute o "pop" apos) [e] [] cpos) (cM1 popAtD fo fa) := by
  refine ⟨fun k σ H ρ M re r0 Q p => ⟨_, pe_bm PySem.F.plainAttrs_list PySem.F.slot_list_pop PySem.F.type_list_pop mt_popAt pe_we (pa_cons pe_we pa_nil hs) hbase hfew hline hs hplain, ?_⟩⟩
  refine obj_run ho re r0 p fun n ds M1 k1 v H1 s1 r1 q1 hl p1 => ?_
  refine ha.run k1 σ H1 ρ M1 (re.mono s1.le) r1 _ (Post.bind p1 fun y M2 k2 u H2 s2 r2 q2 p2 => ?_)
  cases y with
  | int z =>
    simp only [popAtD] at p2
    split at p2
    · rename_i ds2 hl2
      split at p2
      · rename_i hz
        split at p2
        · rename_i j hj
          split at p2
          · rename_i y hy
            obtain ⟨a, xs, e0, ha2, e1, rl⟩ := lst_at r2 (q1.mono s2.le) hl2
            obtain ⟨x, hx, rx⟩ := rl.get hy
            obtain ⟨g1, g2, g3, g4⟩ := ixN_seq hj
            simp only [RepV] at q2
            subst q2
            obtain ⟨b1, b2⟩ := int63 hz g3 g4
            exact ⟨a, xs, z, j, x, e0, rfl, e1, b1, b2, by rw [rl.length]; exact g1, hx, put_lst p2 r2 ha2 (rl.erase j) rx⟩
          · exact p2.elim
        · exact p2.elim
      · exact p2.elim
    · exact p2.elim
  | _ => exact p2.elim
theorem xe_insert (ho : XE X E o fo) (ha : XE X E e fa) (hb : XE X E e2 fb) (hbase : attributeBase o "insert" X.env (eval o X.env) = eval o X.env := by rfl)
    (hfew : ((backTo cpos (starEach [e, e2] X.env)).all (fun x => !x.1) && (backToKw cpos (keywordEach [] X.env)).all (fun x => x.1.isSome) && decide (([e, e2] : List Expr).length + ([] : List Keyword).length + (if ([] : List Keyword).isEmpty then 0 else 1) < 30)) = true := by rfl)
    (hline : (apos.endLine == cpos.line) = true := by rfl) (hs : starEach [e, e2] X.env = (false, eval e X.env) :: starEach [e2] X.env := by rfl) (hs2 : starEach [e2] X.env = (false, eval e2 X.env) :: starEach [] X.env := by rfl) (hplain : (backTo cpos (starEach [e2] X.env)).any (·.1) = false := by rfl) :
    XE X E (.Call (.Attribute o "insert" apos) [e, e2] [] cpos) (cM2 insD fo fa fb) := by
  refine ⟨fun k σ H ρ M re r0 Q p => ⟨_, pe_bm PySem.F.plainAttrs_list PySem.F.slot_list_insert PySem.F.type_list_insert mt_insert pe_we (pa_cons pe_we (pa_cons pe_we pa_nil hs2) hs) hbase hfew hline hs hplain, ?_⟩⟩
  refine obj_run ho re r0 p fun n ds M1 k1 v H1 s1 r1 q1 hl p1 => ?_
  refine ha.run k1 σ H1 ρ M1 (re.mono s1.le) r1 _ (Post.bind p1 fun y M2 k2 u H2 s2 r2 q2 p2 => ?_)
  refine hb.run k2 σ H2 ρ M2 (re.mono (s1.trans s2).le) r2 _ (Post.bind p2 fun y2 M3 k3 u2 H3 s3 r3 q3 p3 => ?_)
  cases y with
  | int z =>
    simp only [insD] at p3
    split at p3
    · rename_i ds2 hl2
      split at p3
      · rename_i hz
        obtain ⟨a, xs, e0, ha2, e1, rl⟩ := lst_at r3 (q1.mono (s2.trans s3).le) hl2
        simp only [RepV] at q2
        subst q2
        refine ⟨a, xs, z, u2, e0, rfl, e1, by rw [rl.length]; exact big hz.1, hz.2.1, by omega, put_lst p3 r3 ha2 ?_ (by simp only [RepV])⟩
        exact ((rl.take _).append (RepL.cons q3 RepL.nil)).append (rl.drop _)
      · exact p3.elim
    · exact p3.elim
  | _ => exact p3.elim
/-! ### dicts -/
def keyD : D → Option Key
  | .int i => some (.inl i)
  | .str s => some (.inr s)
  | _ => none
def dicAt (M : Mem) (n : Nat) : Option (List (Key × D)) := match M[n]? with
  | some (.dic kvs) => some kvs
  | _ => none
theorem dicAt_eq {M : Mem} {n : Nat} {kvs : List (Key × D)} (h : dicAt M n = some kvs) : M[n]? = some (.dic kvs) := by
  unfold dicAt at h
  split at h
  · rename_i es hM
    cases h
    exact hM
  · cases h
def lookD (kvs : List (Key × D)) (k : Key) : Option D := (kvs.find? fun kv => decide (kv.1 = k)).map (·.2)
def putD (kvs : List (Key × D)) (k : Key) (v : D) : List (Key × D) :=
  if (kvs.any fun kv => decide (kv.1 = k)) = true then kvs.map (fun kv => if kv.1 = k then (kv.1, v) else kv) else kvs ++ [(k, v)]
theorem look_rep {K : PySem.W.Frag} {k : Kn} {key : Key} : ∀ {kvs : List (Key × D)} {kvs' : List (Key × V)}, RepKV K k kvs kvs' → (∀ d, lookD kvs key = some d → ∃ v, valV kvs' key = some v ∧ RepV K k d v) ∧ (lookD kvs key = none → valV kvs' key = none)
  | _, _, .nil => ⟨fun d h => by simp [lookD] at h, fun _ => rfl⟩
  | _, _, .cons (a := p) (b := q) (l₁ := r1) (l₂ := r2) h t => by
    obtain ⟨h1, h2⟩ := look_rep (key := key) t
    unfold lookD valV at *
    rw [List.find?_cons, List.find?_cons, h.1]
    by_cases e : q.1 = key
    · rw [decide_eq_true e]
      exact ⟨fun d hd => ⟨q.2, rfl, by cases hd; exact h.2⟩, fun z => by cases z⟩
    · rw [decide_eq_false e]
      exact ⟨h1, h2⟩
theorem any_rep {K : PySem.W.Frag} {k : Kn} {key : Key} : ∀ {kvs : List (Key × D)} {kvs' : List (Key × V)}, RepKV K k kvs kvs' → (kvs.any fun kv => decide (kv.1 = key)) = (kvs'.any fun kv => decide (kv.1 = key))
  | _, _, .nil => rfl
  | _, _, .cons h t => by rw [List.any_cons, List.any_cons, h.1, any_rep t]
theorem RepKV.append {K : PySem.W.Frag} {k : Kn} : ∀ {a b : List (Key × D)} {a' b' : List (Key × V)}, RepKV K k a a' → RepKV K k b b' → RepKV K k (a ++ b) (a' ++ b')
  | _, _, _, _, .nil, s => s
  | _, _, _, _, .cons h t, s => .cons h (RepKV.append t s)
theorem put_rep {K : PySem.W.Frag} {k : Kn} {key : Key} {d : D} {v : V} {kvs : List (Key × D)} {kvs' : List (Key × V)} (r : RepKV K k kvs kvs') (h : RepV K k d v) : RepKV K k (putD kvs key d) (putK kvs' key v) := by
  unfold putD putK
  rw [any_rep r]
  by_cases e : (kvs'.any fun kv => decide (kv.1 = key)) = true
  · rw [if_pos e, if_pos e]
    have key2 : ∀ {a : List (Key × D)} {a' : List (Key × V)}, RepKV K k a a' → RepKV K k (a.map fun kv => if kv.1 = key then (kv.1, d) else kv) (a'.map fun kv => if kv.1 = key then (kv.1, v) else kv) := by
      intro a a' ra
      induction ra with
      | nil => exact .nil
      | @cons p q _ _ hpq _ ih =>
        rw [List.map_cons, List.map_cons]
        refine .cons ?_ ih
        rw [hpq.1]
        by_cases e : q.1 = key
        · rw [if_pos e, if_pos e]; exact ⟨rfl, h⟩
        · rw [if_neg e, if_neg e]; exact hpq
    exact key2 r
  · rw [if_neg e, if_neg e]
    exact r.append (.cons ⟨rfl, h⟩ .nil)
def dgetD (x y : D) (M : Mem) : Res D := match x, keyD y with
  | .ref n, some key => match dicAt M n with
    | some kvs => match lookD kvs key with
      | some d => .ok d M
      | none => .bad
    | none => .bad
  | _, _ => .bad
def dget2D (x y z : D) (M : Mem) : Res D := match x, keyD y with
  | .ref n, some key => match dicAt M n with
    | some kvs => .ok ((lookD kvs key).getD z) M
    | none => .bad
  | _, _ => .bad
theorem key_rep {K : PySem.W.Frag} {k : Kn} {d : D} {v : V} {key : Key} (h : keyD d = some key) (r : RepV K k d v) : v = kV key := by
  cases d <;> simp only [keyD, Option.some.injEq, reduceCtorEq] at h <;> (simp only [RepV] at r; subst r h; rfl)
theorem dic_at {K : PySem.W.Frag} {k : Kn} {H : Hp} {M : Mem} {n : Nat} {v : V} {kvs : List (Key × D)} (r0 : Rel0 K k H M) (rv : RepV K k (.ref n) v) (h : dicAt M n = some kvs) : ∃ a kvs', v = .ref a ∧ k.ι[n]? = some a ∧ H a = some (.dK kvs') ∧ RepKV K k kvs kvs' := by
  simp only [RepV] at rv
  obtain ⟨a, rfl, ha⟩ := rv
  obtain ⟨xs, e1, rl⟩ := r0.obj n a _ ha (dicAt_eq h)
  exact ⟨a, xs, rfl, ha, e1, rl⟩
theorem xe_dget (hu : X.A.units + 1 < cLine) (ho : XE X E o fo) (ha : XE X E e fa) (hs : NoSl e) : XE X E (.Subscript o e cpos) (c2 dgetD fo fa) := by
  refine ⟨fun k σ H ρ M re r0 Q p => ⟨_, pe_dget hu pe_we pe_we hs, ?_⟩⟩
  refine ho.run k σ H ρ M re r0 _ (Post.bind p fun x M1 k1 v H1 s1 r1 q1 p1 => ?_)
  refine ha.run k1 σ H1 ρ M1 (re.mono s1.le) r1 _ (Post.bind p1 fun y M2 k2 u H2 s2 r2 q2 p2 => ?_)
  unfold dgetD at p2
  split at p2
  · rename_i n key hk
    split at p2
    · rename_i kvs hd
      split at p2
      · rename_i d hl
        obtain ⟨a, kvs', rfl, _, e1, rk⟩ := dic_at r2 (q1.mono s2.le) hd
        obtain ⟨z, hz, rz⟩ := (look_rep (key := key) rk).1 d hl
        have eu := key_rep hk q2
        subst eu
        refine ⟨a, z, rfl, ?_, p2.ret r2 rz⟩
        rw [← hz]
        exact DGet.k e1
      · exact p2.elim
    · exact p2.elim
  · exact p2.elim
theorem xe_dget2 (hu : X.A.units + 1 < cLine) (ho : XE X E o fo) (ha : XE X E e fa) (hb : XE X E e2 fb) (m : M2 X o "get" apos e e2 cpos) : XE X E (.Call (.Attribute o "get" apos) [e, e2] [] cpos) (fun ρ M => (fo ρ M).bind fun x M1 => (match x with | .ref n => (match dicAt M1 n with | some _ => Res.ok x M1 | none => .bad) | _ => .bad).bind fun x M2 => (fa ρ M2).bind fun y M3 => (fb ρ M3).bind fun z M4 => dget2D x y z M4) := by
  refine ⟨fun k σ H ρ M re r0 Q p => ⟨_, pe_dget2 hu pe_we pe_we pe_we m, ?_⟩⟩
  refine ho.run k σ H ρ M re r0 _ (Post.bind p fun x M1 k1 v H1 s1 r1 q1 p1 => ?_)
  cases x with
  | ref n =>
    simp only at p1
    cases hd : dicAt M1 n with
    | none => rw [hd] at p1; exact p1.elim
    | some kvs =>
      rw [hd] at p1
      obtain ⟨a, kvs', rfl, _, e1, rk⟩ := dic_at r1 q1 hd
      refine ⟨a, rfl, .inl ⟨kvs', .inl e1⟩, ?_⟩
      refine ha.run k1 σ H1 ρ M1 (re.mono s1.le) r1 _ (Post.bind p1 fun y M2 k2 u H2 s2 r2 q2 p2 => ?_)
      refine hb.run k2 σ H2 ρ M2 (re.mono (s1.trans s2).le) r2 _ (Post.bind p2 fun z M3 k3 w H3 s3 r3 q3 p3 => ?_)
      unfold dget2D at p3
      split at p3
      · rename_i n' key hn hk
        cases hn
        split at p3
        · rename_i kvs2 hd2
          obtain ⟨a2, kvs2', e0, _, e2', rk2⟩ := dic_at r3 (q1.mono (s2.trans s3).le) hd2
          cases e0
          have eu := key_rep hk (q2.mono s3.le)
          subst eu
          refine ⟨_, DGet.k e2', ?_⟩
          obtain ⟨h1, h2⟩ := look_rep (key := key) rk2
          cases hl : lookD kvs2 key with
          | none =>
            rw [h2 hl]
            rw [hl] at p3
            exact p3.ret r3 q3
          | some d =>
            obtain ⟨z', hz, rz⟩ := h1 d hl
            rw [hz]
            rw [hl] at p3
            exact p3.ret r3 rz
        · exact p3.elim
      · exact p3.elim
  | _ => exact p1.elim
/-- d[k] = v -/
def cDPut (fo fa fv : SemE) : SemS := fun ρ M => (fv ρ M).flow fun v M1 => (fo ρ M1).flow fun x M2 => (fa ρ M2).flow fun y M3 => match x, keyD y with
  | .ref n, some key => match dicAt M3 n with
    | some kvs => if kvs.length ≤ 1000000 then .nx ρ (M3.set n (.dic (putD kvs key v))) else .bad
    | none => .bad
  | _, _ => .bad
theorem xs_dput {value : Expr} {fv : SemE} {pos pos' : Pos} (hu : X.A.units + 1 < cLine) (ho : XE X E o fo) (ha : XE X E e fa) (hv : XE X E value fv) (hs : swapsWith value (some (.Subscript o e pos')) pos.line X.env = pure false := by rfl) : XS X E (.Assign [.Subscript o e pos'] value pos) (cDPut fo fa fv) := by
  refine ⟨fun k σ H ρ M re r0 D p => ⟨_, ps_dput hu pe_we pe_we pe_we hs, ?_⟩⟩
  refine hv.run k σ H ρ M re r0 _ (PostF.bind p fun d M1 k1 v H1 s1 r1 q1 p1 => ?_)
  refine ho.run k1 σ H1 ρ M1 (re.mono s1.le) r1 _ (PostF.bind p1 fun x M2 k2 u H2 s2 r2 q2 p2 => ?_)
  refine ha.run k2 σ H2 ρ M2 (re.mono (s1.trans s2).le) r2 _ (PostF.bind p2 fun y M3 k3 w H3 s3 r3 q3 p3 => ?_)
  split at p3
  · rename_i n key hk
    split at p3
    · rename_i kvs hd
      split at p3
      · rename_i hz
        obtain ⟨a, kvs', rfl, ha3, e1, rk⟩ := dic_at r3 (q2.mono s3.le) hd
        have eu := key_rep hk q3
        subst eu
        refine ⟨a, _, rfl, DPut.k e1 (by rw [rk.length]; exact big hz), ?_⟩
        refine p3 k3 σ _ ((Stp.refl k3 H3).put ha3) (re.mono ((s1.trans s2).trans s3).le) (r3.put ha3 ⟨_, upd_same, put_rep rk (q1.mono (s2.trans s3).le)⟩)
      · exact p3.elim
    · exact p3.elim
  · exact p3.elim
/-- {k: v, ..}: written texts or ints as keys -/
def mergeD (kvs : List (Key × D)) : List (Key × D) := kvs.foldl (fun acc kv => putD acc kv.1 kv.2) []
abbrev SemP := Env → Mem → Res (List (Key × D))
def cPnil : SemP := fun _ M => .ok [] M
def cPcons (key : Key) (fv : SemE) (r : SemP) : SemP := fun ρ M => (fv ρ M).bind fun v M1 => (r ρ M1).bind fun kvs M2 => .ok ((key, v) :: kvs) M2
def cDisp (r : SemP) : SemE := fun ρ M => (r ρ M).bind fun kvs M1 => if kvs.length ≤ 15 then .ok (.ref M1.length) (M1 ++ [.dic (mergeD kvs)]) else .bad
def WPs (X : Cx) (pos : Pos) (keys : List (Option Expr)) (values : List Expr) (σ : L2.St) (H : Hp) (Q : List (V × V) → Hp → Prop) : Prop := ∃ trs, PPs X pos keys values trs ∧ tPairs trs σ H Q
structure XP (X : Cx) (E : L2.XK) (pos : Pos) (keys : List (Option Expr)) (values : List Expr) (trs : List (TE × TE)) (f : SemP) : Prop where
  pps : PPs X pos keys values trs
  run : ∀ k σ H ρ M, RelE X.K k σ ρ → Rel0 X.K k H M → ∀ Q : List (V × V) → Hp → Prop, Post X.K X.mg E (fun k kvs ps => ∃ kvs', RepKV X.K k kvs kvs' ∧ ps = kvs'.map fun kv => (kV kv.1, kv.2)) k H (f ρ M) Q → tPairs trs σ H Q
theorem xp_nil {pos : Pos} : XP X E pos [] [] [] cPnil := ⟨pps_nil, fun k σ H ρ M re r0 Q p => p.ret r0 ⟨[], .nil, rfl⟩⟩
theorem xp_cons {pos : Pos} {kx v : Expr} {key : Key} {ks : List (Option Expr)} {vs : List Expr} {trs : List (TE × TE)} {fv : SemE} {r : SemP} (hk : PE X kx (tC (kV key))) (hv : XE X E v fv) (hr : XP X E pos ks vs trs r) :
    XP X E pos (some kx :: ks) (v :: vs) ((tC (kV key), WE X v) :: trs) (cPcons key fv r) := by
  refine ⟨pps_cons hk pe_we hr.pps, fun k σ H ρ M re r0 Q p => ?_⟩
  refine hv.run k σ H ρ M re r0 _ (Post.bind p fun d M1 k1 u H1 s1 r1 q1 p1 => ?_)
  refine hr.run k1 σ H1 ρ M1 (re.mono s1.le) r1 _ (Post.bind p1 fun kvs M2 k2 ps H2 s2 r2 q2 p2 => ?_)
  obtain ⟨kvs', rk, rfl⟩ := q2
  exact p2.ret r2 ⟨(key, u) :: kvs', .cons ⟨rfl, q1.mono s2.le⟩ rk, rfl⟩
theorem merge_rep {K : PySem.W.Frag} {k : Kn} {kvs : List (Key × D)} {kvs' : List (Key × V)} (r : RepKV K k kvs kvs') : RepKV K k (mergeD kvs) (mergeK [] kvs') := by
  unfold mergeD mergeK
  have key : ∀ {acc : List (Key × D)} {acc' : List (Key × V)}, RepKV K k acc acc' → RepKV K k (kvs.foldl (fun acc kv => putD acc kv.1 kv.2) acc) (kvs'.foldl (fun acc kv => putK acc kv.1 kv.2) acc') := by
    induction r with
    | nil => intro _ _ h; exact h
    | @cons p q _ _ hpq _ ih =>
      intro acc acc' h
      rw [List.foldl_cons, List.foldl_cons]
      refine ih ?_
      rw [hpq.1]
      exact put_rep h hpq.2
  exact key .nil
theorem xe_disp {pos : Pos} {keys : List (Option Expr)} {values : List Expr} {trs : List (TE × TE)} {r : SemP} (h : XP X E pos keys values trs r) (hall : keys.all (·.isSome) = true := by rfl) (hl : keys.length = values.length := by rfl) (h0 : keys ≠ [] := by intro z; cases z)
    (h15 : keys.length ≤ 15 := by decide) : XE X E (.Dict keys values pos) (cDisp r) := by
  refine ⟨fun k σ H ρ M re r0 Q p => ⟨_, pe_disp h.pps hall hl h0 h15, fun a hp => ?_⟩⟩
  have hf := r0.free hp
  refine h.run k σ (upd H a (.dK [])) ρ M re (r0.new hp) _ ?_
  unfold cDisp at p
  cases hr : r ρ M with
  | bad => rw [hr] at p; exact p
  | exc c x M1 =>
    rw [hr] at p
    intro k1 H1 C od s1 r1 x1
    exact p k1 H1 C od ((Stp.new hp).trans s1) r1 x1
  | ok kvs M1 =>
    rw [hr] at p
    intro k1 ps H1 s1 r1 q1
    obtain ⟨kvs', rk, rfl⟩ := q1
    simp only [Res.bind_ok] at p
    split at p
    · rename_i hz
      have e1 : H1 a = some (.dK []) := s1.unt a _ upd_same hf.2
      have h1 : k1.H a = none := by
        cases q : k1.H a with
        | none => rfl
        | some o =>
          rcases s1.fr a o q with z | z
          · rw [hf.1] at z; cases z
          · rw [upd_same] at z; cases z
      have h2 : a ∉ k1.ι := fun hm => by
        rcases s1.nw a hm with z | z
        · exact hf.2 z
        · rw [upd_same] at z; cases z
      have s2 : Stp k H k1 H1 := (Stp.new hp).trans s1
      refine ⟨e1, kvs', rfl, by rw [rk.length]; exact hz, ?_⟩
      refine p ⟨k1.H, k1.ι ++ [a]⟩ (.ref a) _ ((s2.hid hp).join hp) ((r1.hid h1 h2).join h1 h2 ⟨_, upd_same, merge_rep rk⟩) ?_
      simp only [RepV]
      exact ⟨a, rfl, by rw [← r1.len]; simp⟩
    · exact p.elim
/-- {} -/
def cNewD : SemE := fun _ M => .ok (.ref M.length) (M ++ [.dic []])
theorem xe_newD {pos : Pos} : XE X E (.Dict [] [] pos) cNewD := by
  refine ⟨fun k σ H ρ M re r0 Q p => ⟨_, pe_dnewK, fun a hp => ?_⟩⟩
  have hf := r0.free hp
  refine p ⟨k.H, k.ι ++ [a]⟩ (.ref a) _ ((Stp.new hp).join hp) ((r0.new hp).join hf.1 hf.2 ⟨[], upd_same, .nil⟩) ?_
  simp only [RepV]
  exact ⟨a, rfl, by rw [← r0.len]; simp⟩
/-- {} that never changes -/
theorem xe_newDf {pos : Pos} : XE X E (.Dict [] [] pos) (cC (.dic [] [])) := by
  refine ⟨fun k σ H ρ M re r0 Q p => ⟨_, pe_dnewK, fun a hp => ?_⟩⟩
  have hf := r0.free hp
  refine p ⟨upd k.H a (.dK []), k.ι⟩ (.ref a) _ ((Stp.new hp).frz hp hf.1) ((r0.new hp).frz upd_same hf.1 hf.2) ?_
  simp only [RepV]
  exact ⟨a, [], rfl, upd_same, rfl, RepL.nil⟩
end
end G
set_option maxHeartbeats 2000000
namespace G
open PySem PySem.Spec PyProof.Rows L2
/-! ### parallel assignment, unpacking -/
def cPar (i j : Nat) (g : SemA) : SemS := fun ρ M => (g ρ M).flow fun ds M1 => match ds with
  | [a, b] => .nx ((ρ.set i (some a)).set j (some b)) M1
  | _ => .bad
def cPar3 (i j l : Nat) (g : SemA) : SemS := fun ρ M => (g ρ M).flow fun ds M1 => match ds with
  | [a, b, c] => .nx (((ρ.set i (some a)).set j (some b)).set l (some c)) M1
  | _ => .bad
/-- a tuple, or a list that never changes, told apart -/
def tgSeq (h : TgL) : TgE := fun d ρ => match d with
  | .tup ds => h ds ρ
  | .lst ds => h ds ρ
  | _ => none
section
variable {X : Cx} {E : L2.XK}
theorem xs_par {i j : Nat} {x y : Str} {a b : Expr} {g : SemA} {px py pt pos : Pos} {kt k2 pt2} (hc : X.calm = true) (hN : X.N.Nodup) (hi : X.N[i]? = some x) (hj : X.N[j]? = some y) (hij : i ≠ j) (hx : X.env.scope.names.lookup x = some .local) (hy : X.env.scope.names.lookup y = some .local)
    (ha : XA X E [a, b] g) (hw : swappedStores [.Tuple [.Name x px, .Name y py] kt pt] (.Tuple [a, b] k2 pt2) X.env = pure (some [x, y]) := by rfl) (hs : swapsWithSole [.Tuple [.Name x px, .Name y py] kt pt] (.Tuple [a, b] k2 pt2) pos.line X.env = pure false := by rfl) :
    XS X E (.Assign [.Tuple [.Name x px, .Name y py] kt pt] (.Tuple [a, b] k2 pt2) pos) (cPar i j g) := by
  refine ⟨fun k σ H ρ M re r0 D p => ⟨_, ps_par hc hN hi hj hij hx hy pa_wa hw hs, ?_⟩⟩
  refine ha.run k σ H ρ M re r0 _ (PostF.bind p fun ds M1 k1 vs H1 s1 r1 q1 p1 => ?_)
  split at p1
  · obtain ⟨v, u, rfl, rv, ru⟩ := q1.two
    exact ⟨v, u, rfl, p1.go (((re.mono s1.le).set rv).set ru) r1⟩
  · exact p1.elim
theorem xs_par3 {i j l : Nat} {x y z : Str} {a b c : Expr} {g : SemA} {px py pz pt pos : Pos} {kt k2 pt2} (hc : X.calm = true) (hN : X.N.Nodup) (hi : X.N[i]? = some x) (hj : X.N[j]? = some y) (hl : X.N[l]? = some z) (hij : i ≠ j) (hil : i ≠ l) (hjl : j ≠ l)
    (hx : X.env.scope.names.lookup x = some .local) (hy : X.env.scope.names.lookup y = some .local) (hz : X.env.scope.names.lookup z = some .local) (ha : XA X E [a, b, c] g)
    (hw : swappedStores [.Tuple [.Name x px, .Name y py, .Name z pz] kt pt] (.Tuple [a, b, c] k2 pt2) X.env = pure (some [x, y, z]) := by rfl) (hs : swapsWithSole [.Tuple [.Name x px, .Name y py, .Name z pz] kt pt] (.Tuple [a, b, c] k2 pt2) pos.line X.env = pure false := by rfl) :
    XS X E (.Assign [.Tuple [.Name x px, .Name y py, .Name z pz] kt pt] (.Tuple [a, b, c] k2 pt2) pos) (cPar3 i j l g) := by
  refine ⟨fun k σ H ρ M re r0 D p => ⟨_, ps_par3 hc hN hi hj hl hij hil hjl hx hy hz pa_wa hw hs, ?_⟩⟩
  refine ha.run k σ H ρ M re r0 _ (PostF.bind p fun ds M1 k1 vs H1 s1 r1 q1 p1 => ?_)
  split at p1
  · rename_i a b c
    simp only [RepL] at q1
    obtain ⟨x1, r1', rfl, h1, x2, r2', rfl, h2, x3, r3', rfl, h3, rfl⟩ := q1
    exact ⟨x1, x2, x3, rfl, p1.go ((((re.mono s1.le).set h1).set h2).set h3) r1⟩
  · exact p1.elim
theorem xg_seq {es : List Expr} {kk : Nat} {is : List Nat} {pos : Pos} {h : TgL} {n : Nat} (hc : X.calm = true) (hh : XGs X es is h)
    (hn : (assignEach es X.env).length = n := by rfl) (hst : (assignEach es X.env).findIdx? (·.1) = none := by rfl) (hl : ∀ ds ρ ρ', h ds ρ = some ρ' → ds.length = n) : XG X (.Tuple es kk pos) is (tgSeq h) := by
  refine ⟨fun k σ H ρ M d v re r0 rv ρ' hg Q q => ?_⟩
  cases d with
  | tup ds => exact (xg_tup hc hh hn hst hl).run k σ H ρ M (.tup ds) v re r0 rv ρ' hg Q q
  | lst ds =>
    simp only [RepV] at rv
    obtain ⟨a, xs, rfl, hs, rl⟩ := rv
    exact ⟨_, pg_lst hc pgs_wgs hn hst, a, xs, rfl, r0.ex.seq hs, by rw [rl.length]; exact hl _ _ _ hg, hh.run k σ H ρ M ds xs re r0 rl ρ' hg Q q⟩
  | _ => cases hg
/-! ### the top's names -/
def GInt (mg : Str → Option Value) (x : Str) (i : Int) : Prop := ∃ u, mg x = some u ∧ RelV (.int i) u
theorem xe_gint {x : Str} {i : Int} {pos : Pos} (hg : Gl X x) (h : GInt X.mg x i) (hdb : (x == ("__debug__" : Str)) = false := by rfl) : XE X E (.Name x pos) (cC (.int i)) := by
  obtain ⟨u, h1, h2⟩ := h
  exact xe_c (pe_glob hg h1 h2 hdb) fun k => by simp only [RepV]
/-! ### powers -/
def powD : D → D → Mem → Res D
  | .int i, .int j, M => if 0 ≤ j ∧ j ≤ 1000000 ∧ i.natAbs < 2 ^ 64 then .ok (.int (i ^ j.toNat)) M else .bad
  | _, _, _ => .bad
theorem os_pow : OpS X E (binaryOp .Pow) powD := by
  intro k H M a b x y r0 ra rb Q p
  unfold powD at p
  split at p
  · rename_i i j
    split at p
    · rename_i hz
      simp only [RepV] at ra rb
      subst ra rb
      exact ⟨_, op_pow, i, j, rfl, rfl, hz, p.ret r0 (by simp only [RepV])⟩
    · exact p.elim
  · exact p.elim
end
end G
set_option maxHeartbeats 2000000
namespace G
open PySem PySem.Spec PyProof.Rows L2
abbrev ltD : D → D → Mem → Res D := cmpD fun i j => decide (i < j)
abbrev leD : D → D → Mem → Res D := cmpD fun i j => decide (i ≤ j)
abbrev gtD : D → D → Mem → Res D := cmpD fun i j => decide (j < i)
abbrev geD : D → D → Mem → Res D := cmpD fun i j => decide (j ≤ i)
/-! ### what the top has written -/
mutual
def repB (K : PySem.W.Frag) : D → Value → Bool
  | .non, u => He.relB .non u
  | .bl b, u => He.relB (.bl b) u
  | .int i, u => He.relB (.int i) u
  | .str x, u => He.relB (.str x) u
  | .tup ds, u => match u with
    | .ref a => match K.lookup a with
      | some ⟨.type c, _, .seq its _, _⟩ => decide (c = "tuple") && decide (its.size ≤ sizeLine) && repLB K ds its.toList
      | _ => false
    | _ => false
  | .lst ds, u => match u with
    | .ref a => match K.lookup a with
      | some ⟨.type c, none, .seq its _, _⟩ => decide (c = "list") && decide (its.size ≤ sizeLine) && repLB K ds its.toList
      | _ => false
    | _ => false
  | _, _ => false
def repLB (K : PySem.W.Frag) : List D → List Value → Bool
  | [], us => us.isEmpty
  | d :: ds, us => match us with
    | [] => false
    | u :: r => repB K d u && repLB K ds r
end
theorem ba {a b : Bool} (h : (a && b) = true) : a = true ∧ b = true := by simpa using h
mutual
theorem repB_ok {K : PySem.W.Frag} : ∀ {d : D} {u : Value}, repB K d u = true → ∃ v, RelV v u ∧ ∀ k, RepV K k d v
  | .non, u, h => ⟨.non, He.relB_ok (by simpa only [repB] using h), fun k => by simp only [RepV]⟩
  | .bl b, u, h => ⟨.bl b, He.relB_ok (by simpa only [repB] using h), fun k => by simp only [RepV]⟩
  | .int i, u, h => ⟨.int i, He.relB_ok (by simpa only [repB] using h), fun k => by simp only [RepV]⟩
  | .str x, u, h => ⟨.str x, He.relB_ok (by simpa only [repB] using h), fun k => by simp only [RepV]⟩
  | .tup ds, u, h => by
    unfold repB at h
    split at h
    · rename_i a
      split at h
      · rename_i c _ its n _ hk
        obtain ⟨h1, h3⟩ := ba h
        obtain ⟨h1, h2⟩ := ba h1
        have hc := of_decide_eq_true h1
        subst hc
        obtain ⟨vs, rv, rl⟩ := repLB_ok h3
        refine ⟨.ref a, rfl, fun k => ?_⟩
        simp only [RepV]
        exact ⟨a, vs, rfl, .inr ⟨_, its, n, hk, rfl, rfl, of_decide_eq_true h2, rv⟩, rl k⟩
      · cases h
    · cases h
  | .lst ds, u, h => by
    unfold repB at h
    split at h
    · rename_i a
      split at h
      · rename_i c its n _ hk
        obtain ⟨h1, h3⟩ := ba h
        obtain ⟨h1, h2⟩ := ba h1
        have hc := of_decide_eq_true h1
        subst hc
        obtain ⟨vs, rv, rl⟩ := repLB_ok h3
        refine ⟨.ref a, rfl, fun k => ?_⟩
        simp only [RepV]
        exact ⟨a, vs, rfl, .inr ⟨_, its, n, hk, rfl, rfl, rfl, of_decide_eq_true h2, rv⟩, rl k⟩
      · cases h
    · cases h
  | .dic _ _, u, h => by simp [repB] at h
  | .ref _, u, h => by simp [repB] at h
theorem repLB_ok {K : PySem.W.Frag} : ∀ {ds : List D} {us : List Value}, repLB K ds us = true → ∃ vs, Vals vs us ∧ ∀ k, RepL K k ds vs
  | [], us, h => by
    cases us with
    | nil => exact ⟨[], .nil, fun k => RepL.nil⟩
    | cons _ _ => simp [repLB] at h
  | d :: ds, us, h => by
    cases us with
    | nil => simp [repLB] at h
    | cons u r =>
      obtain ⟨h1, h2⟩ := ba (by simpa only [repLB] using h)
      obtain ⟨v, e1, e2⟩ := repB_ok h1
      obtain ⟨vs, e3, e4⟩ := repLB_ok h2
      exact ⟨v :: vs, .cons e1 e3, fun k => RepL.cons (e2 k) (e4 k)⟩
end
/-- a name of the top that stands for plain data -/
def GVal (K : PySem.W.Frag) (mg : Str → Option Value) (x : Str) (d : D) : Prop := ∃ u v, mg x = some u ∧ RelV v u ∧ ∀ k, RepV K k d v
def valB (K : PySem.W.Frag) (x : Str) (d : D) : Bool := match PySem.W.nsIn K mainGlobals x with
  | some (some u) => repB K d u
  | _ => false
theorem valB_ok {K : PySem.W.Frag} {h : Heap} {mg : Str → Option Value} (X : K.In h) (G : h.Ns mainGlobals mg) {x : Str} {d : D} (c : valB K x d = true) : GVal K mg x d := by
  unfold valB at c
  split at c
  · rename_i u hu
    obtain ⟨v, e1, e2⟩ := repB_ok c
    exact ⟨u, v, PySem.W.mg_of X G hu, e1, e2⟩
  · cases c
/-- a written dict with text keys -/
def lookS (kvs : List (Str × D)) (z : Str) : Option D := (kvs.find? fun kv => decide (kv.1 = z)).map (·.2)
def tabL (K : PySem.W.Frag) : List DictEntry → List (Str × D) → Bool
  | [], q => q.isEmpty
  | e :: r, q => match q with
    | [] => false
    | (z, d) :: q => Value.isStrOf z e.key && repB K d e.val && tabL K r q
def tabB (K : PySem.W.Frag) (a : Addr) (kvs : List (Str × D)) : Bool := match K.lookup a with
  | some ⟨_, _, .dict es _, _⟩ => tabL K es.toList kvs
  | _ => false
def GTab (K : PySem.W.Frag) (w : World) (mg : Str → Option Value) (x : Str) (kvs : List (Str × D)) : Prop := ∃ a es n, mg x = some (.ref a) ∧ KDict K w a es n ∧ tabB K a kvs = true
theorem tabL_ok {K : PySem.W.Frag} {z : Str} : ∀ {es : List DictEntry} {kvs : List (Str × D)}, tabL K es kvs = true → (es.any (·.refKey)) = false ∧
    match lookS kvs z with
    | some d => ∃ e, es.find? (·.key.isStr z) = some e ∧ repB K d e.val = true
    | none => es.find? (·.key.isStr z) = none
  | [], kvs, h => by
    cases kvs with
    | nil => exact ⟨rfl, rfl⟩
    | cons _ _ => simp [tabL] at h
  | e :: r, kvs, h => by
    cases kvs with
    | nil => simp [tabL] at h
    | cons p q =>
      obtain ⟨y, d⟩ := p
      obtain ⟨h1, h3⟩ := ba (by simpa only [tabL] using h)
      obtain ⟨h1, h2⟩ := ba h1
      obtain ⟨t, ht⟩ := Value.isStrOf_shape h1
      obtain ⟨i1, i2⟩ := tabL_ok (z := z) h3
      obtain ⟨eh, ek, ev⟩ := e
      simp only at ht
      subst ht
      refine ⟨by rw [List.any_cons, i1]; rfl, ?_⟩
      rw [List.find?_cons]
      unfold lookS
      rw [List.find?_cons]
      simp only [Value.isStr]
      by_cases hz : y = z
      · subst hz
        simp only [decide_true, Option.map_some, BEq.rfl]
        exact ⟨_, rfl, h2⟩
      · have hz' : (y == z) = false := by simpa using hz
        simp only [decide_eq_false hz, hz']
        exact i2
theorem tab_at {K : PySem.W.Frag} {a : Addr} {kvs : List (Str × D)} {z : Str} (h : tabB K a kvs = true) :
    match lookS kvs z with
    | some d => ∃ u v, PySem.W.nsIn K a z = some (some u) ∧ RelV v u ∧ ∀ k, RepV K k d v
    | none => PySem.W.nsIn K a z = some none := by
  unfold tabB at h
  split at h
  · rename_i es n _ hk
    obtain ⟨i1, i2⟩ := tabL_ok (z := z) h
    unfold PySem.W.nsIn
    rw [hk]
    dsimp only
    cases hl : lookS kvs z with
    | none =>
      rw [hl] at i2
      rw [i2, i1]
      rfl
    | some d =>
      rw [hl] at i2
      obtain ⟨e, e1, e2⟩ := i2
      rw [e1]
      obtain ⟨v, r1, r2⟩ := repB_ok e2
      exact ⟨_, v, rfl, r1, r2⟩
  · cases h
def tabD (kvs : List (Str × D)) : D → Mem → Res D
  | .str z, M => match lookS kvs z with
    | some d => .ok d M
    | none => .bad
  | _, _ => .bad
def tabInD (kvs : List (Str × D)) : D → Mem → Res D
  | .str z, M => .ok (.bl (lookS kvs z).isSome) M
  | _, _ => .bad
def tabNotInD (kvs : List (Str × D)) : D → Mem → Res D
  | .str z, M => .ok (.bl (!(lookS kvs z).isSome)) M
  | _, _ => .bad
section
variable {X : Cx} {E : L2.XK} {a : Expr} {fa : SemE} {x : Str} {kvs : List (Str × D)} {pos p : Pos}
theorem xe_gval {d : D} (hg : Gl X x) (h : GVal X.K X.mg x d) (hdb : (x == ("__debug__" : Str)) = false := by rfl) : XE X E (.Name x pos) (cC d) := by
  obtain ⟨u, v, h1, h2, h3⟩ := h
  exact xe_c (pe_glob hg h1 h2 hdb) h3
theorem xe_tab (hg : Gl X x) (h : GTab X.K X.w X.mg x kvs) (ha : XE X E a fa) (hdb : (x == ("__debug__" : Str)) = false := by rfl) (hs : PlainIx a := by exact fun _ _ => rfl) : XE X E (.Subscript (.Name x p) a pos) (c1 (tabD kvs) fa) := by
  obtain ⟨d, es, n, h1, h2, h3⟩ := h
  refine ⟨fun k σ H ρ M re r0 Q q => ⟨_, pe_ix ix_kdict (pe_glob (v := .ref d) hg h1 rfl hdb) pe_we hs, ?_⟩⟩
  refine ha.run k σ H ρ M re r0 _ (Post.bind q fun y M1 k1 v H1 s1 r1 q1 p1 => ?_)
  unfold tabD at p1
  split at p1
  · rename_i z
    have ht := tab_at (z := z) h3
    simp only [RepV] at q1
    subst q1
    split at p1
    · rename_i dd hl
      rw [hl] at ht
      obtain ⟨u, v, e1, e2, e3⟩ := ht
      exact ⟨d, z, v, rfl, rfl, ⟨es, n, u, h2.at_, h2.lit, e1, e2⟩, p1.ret r1 (e3 k1)⟩
    · exact p1.elim
  · exact p1.elim
theorem xe_tabIn (hg : Gl X x) (h : GTab X.K X.w X.mg x kvs) (ha : XE X E a fa) (hdb : (x == ("__debug__" : Str)) = false := by rfl) (hm : behindInMarks .In (.Name x p) = false := by rfl) : XE X E (.Compare a [.In] [.Name x p] pos) (c1 (tabInD kvs) fa) := by
  obtain ⟨d, es, n, h1, h2, h3⟩ := h
  refine ⟨fun k σ H ρ M re r0 Q q => ⟨_, pe_cmpR (op_in_kd h2) pe_we (pe_glob (v := .ref d) hg h1 rfl hdb) hm, ?_⟩⟩
  refine ha.run k σ H ρ M re r0 _ (Post.bind q fun y M1 k1 v H1 s1 r1 q1 p1 => ?_)
  unfold tabInD at p1
  split at p1
  · rename_i z
    have ht := tab_at (z := z) h3
    simp only [RepV] at q1
    subst q1
    cases hl : lookS kvs z with
    | none => rw [hl] at ht p1; exact ⟨z, none, rfl, rfl, ht, p1.ret r1 (by simp only [RepV]; rfl)⟩
    | some dd =>
      rw [hl] at ht p1
      obtain ⟨u, v, e1, e2, e3⟩ := ht
      exact ⟨z, some u, rfl, rfl, e1, p1.ret r1 (by simp only [RepV]; rfl)⟩
  · exact p1.elim
theorem xe_tabNotIn (hg : Gl X x) (h : GTab X.K X.w X.mg x kvs) (ha : XE X E a fa) (hdb : (x == ("__debug__" : Str)) = false := by rfl) (hm : behindInMarks .NotIn (.Name x p) = false := by rfl) : XE X E (.Compare a [.NotIn] [.Name x p] pos) (c1 (tabNotInD kvs) fa) := by
  obtain ⟨d, es, n, h1, h2, h3⟩ := h
  refine ⟨fun k σ H ρ M re r0 Q q => ⟨_, pe_cmpR (op_notIn_kd h2) pe_we (pe_glob (v := .ref d) hg h1 rfl hdb) hm, ?_⟩⟩
  refine ha.run k σ H ρ M re r0 _ (Post.bind q fun y M1 k1 v H1 s1 r1 q1 p1 => ?_)
  unfold tabNotInD at p1
  split at p1
  · rename_i z
    have ht := tab_at (z := z) h3
    simp only [RepV] at q1
    subst q1
    cases hl : lookS kvs z with
    | none => rw [hl] at ht p1; exact ⟨z, none, rfl, rfl, ht, p1.ret r1 (by simp only [RepV]; rfl)⟩
    | some dd =>
      rw [hl] at ht p1
      obtain ⟨u, v, e1, e2, e3⟩ := ht
      exact ⟨z, some u, rfl, rfl, e1, p1.ret r1 (by simp only [RepV]; rfl)⟩
  · exact p1.elim
end
/-! ### d != {}, d == {} -/
def kvsOf (M : Mem) : D → Option Bool
  | .dic ks ds => if ks.length = ds.length then some ks.isEmpty else none
  | .ref n => (dicAt M n).map (·.isEmpty)
  | _ => none
def eqE (a b : D) (M : Mem) : Res D := match b with
  | .dic [] [] => match kvsOf M a with
    | some e => .ok (.bl e) M
    | none => .bad
  | _ => .bad
def neE (a b : D) (M : Mem) : Res D := match b with
  | .dic [] [] => match kvsOf M a with
    | some e => .ok (.bl (!e)) M
    | none => .bad
  | _ => .bad
section
variable {X : Cx} {E : L2.XK}
theorem kvs_view {K : PySem.W.Frag} {k : Kn} {H : Hp} {M : Mem} {d : D} {v : V} {e : Bool} (r0 : Rel0 K k H M) (h : kvsOf M d = some e) (r : RepV K k d v) : ∃ a kvs, v = .ref a ∧ H a = some (.dK kvs) ∧ kvs.isEmpty = e := by
  unfold kvsOf at h
  split at h
  · rename_i ks ds
    split at h
    · rename_i hl
      cases h
      simp only [RepV] at r
      obtain ⟨a, xs, rfl, ha, hx, rl⟩ := r
      refine ⟨a, _, rfl, r0.ex a _ ha, ?_⟩
      cases ks with
      | nil => rfl
      | cons k0 kr =>
        cases xs with
        | nil => simp at hx
        | cons x xr => rfl
    · cases h
  · rename_i n
    cases hd : dicAt M n with
    | none => rw [hd] at h; cases h
    | some kvs =>
      rw [hd] at h
      cases h
      obtain ⟨a, kvs', rfl, _, e1, rk⟩ := dic_at r0 r hd
      refine ⟨a, kvs', rfl, e1, ?_⟩
      have := rk.length
      cases kvs <;> cases kvs' <;> simp_all
  · cases h
def rEqE : R2 := fun x y H Q => ∃ a b kvs, x = .ref a ∧ y = .ref b ∧ H a = some (.dK kvs) ∧ H b = some (.dK []) ∧ Q (.bl kvs.isEmpty) H
def rNeE : R2 := fun x y H Q => ∃ a b kvs, x = .ref a ∧ y = .ref b ∧ H a = some (.dK kvs) ∧ H b = some (.dK []) ∧ Q (.bl (!kvs.isEmpty)) H
theorem op_eqE (hu : X.A.units < cLine) : OpR X (compareOp .Eq) rEqE := by
  intro pins s σ H x y v u Q I rx ry h
  obtain ⟨a, b, ks, rfl, rfl, ea, eb, q⟩ := h
  obtain rfl : v = Value.ref a := rx
  obtain rfl : u = Value.ref b := ry
  obtain ⟨_, ya, va, ra, da⟩ := (show ObjOk X.prog X.w H s.heap a (.dK ks) from I.hok a _ ea)
  obtain ⟨_, yb, vb, rb, db⟩ := (show ObjOk X.prog X.w H s.heap b (.dK []) from I.hok b _ eb)
  have hb : vb.length = 0 := by rw [← rb.length]; rfl
  have ha : va.length = ks.length := ra.length.symm
  refine PySem.W.keq_eq (knd := mixKind X.prog X.w) (r := true) ya yb da db hu (fun hl => ?_) (fin_bl I q ?_)
  · have : va = [] := List.length_eq_zero_iff.mp (hl.trans hb)
    rw [this]
    exact .nil
  · cases ks <;> simp_all
theorem op_neE (hu : X.A.units < cLine) : OpR X (compareOp .NotEq) rNeE := by
  intro pins s σ H x y v u Q I rx ry h
  obtain ⟨a, b, ks, rfl, rfl, ea, eb, q⟩ := h
  obtain rfl : v = Value.ref a := rx
  obtain rfl : u = Value.ref b := ry
  obtain ⟨_, ya, va, ra, da⟩ := (show ObjOk X.prog X.w H s.heap a (.dK ks) from I.hok a _ ea)
  obtain ⟨_, yb, vb, rb, db⟩ := (show ObjOk X.prog X.w H s.heap b (.dK []) from I.hok b _ eb)
  have hb : vb.length = 0 := by rw [← rb.length]; rfl
  have ha : va.length = ks.length := ra.length.symm
  refine PySem.W.keq_ne (knd := mixKind X.prog X.w) (r := true) ya yb da db hu (fun hl => ?_) (fin_bl I q ?_)
  · have : va = [] := List.length_eq_zero_iff.mp (hl.trans hb)
    rw [this]
    exact .nil
  · cases ks <;> simp_all
theorem os_eqE (hu : X.A.units + 64 < cLine) : OpS X E (compareOp .Eq) eqE := by
  intro k H M a b x y r0 ra rb Q p
  unfold eqE at p
  split at p
  · split at p
    · rename_i e he
      obtain ⟨a1, kvs, rfl, e1, e2⟩ := kvs_view r0 he ra
      obtain ⟨b1, kvs2, rfl, e3, e4⟩ := kvs_view (d := .dic [] []) (e := true) r0 rfl rb
      have e5 : kvs2 = [] := List.isEmpty_iff.mp e4
      subst e5 e2
      exact ⟨_, op_eqE (by omega), a1, b1, kvs, rfl, rfl, e1, e3, p.ret r0 (by simp only [RepV])⟩
    · exact p.elim
  · exact p.elim
theorem os_neE (hu : X.A.units + 64 < cLine) : OpS X E (compareOp .NotEq) neE := by
  intro k H M a b x y r0 ra rb Q p
  unfold neE at p
  split at p
  · split at p
    · rename_i e he
      obtain ⟨a1, kvs, rfl, e1, e2⟩ := kvs_view r0 he ra
      obtain ⟨b1, kvs2, rfl, e3, e4⟩ := kvs_view (d := .dic [] []) (e := true) r0 rfl rb
      have e5 : kvs2 = [] := List.isEmpty_iff.mp e4
      subst e5 e2
      exact ⟨_, op_neE (by omega), a1, b1, kvs, rfl, rfl, e1, e3, p.ret r0 (by simp only [RepV])⟩
    · exact p.elim
  · exact p.elim
end
/-! ### calls by what is known of the def -/
/-- the last arguments left out -/
def DflOk (K : PySem.W.Frag) (fd : FuncData) (ps : List Str) (dds : List D) : Prop := ∃ dvs dv, Vals dvs dv ∧ L2.Binds K fd ps dv ∧ ∀ k, RepL K k dds dvs
section
variable {X : Cx} {E : L2.XK} {x : Str} {i j n : Nat} {m : List D → Mem → Res D} {e : Expr} {es : List Expr} {g : SemA} {p pos : Pos}
theorem xe_callDH {f : Addr} {fd : FuncData} {ps : List Str} {dds : List D} (Fg : FnG X.prog X.w X.K X.mg X.base x f fd ps i m) (hd : DflOk X.K fd ps dds) (C : CtxOk X E j) (hij : i ≤ j) (hg : Gl X x) (ha : XA X E (e :: es) g) (hdb : (x == ("__debug__" : Str)) = false := by decide)
    (he : starEach (e :: es) X.env = (false, eval e X.env) :: starEach es X.env := by rfl) (hpl : (backTo pos (starEach es X.env)).any (·.1) = false := by rfl) : XE X E (.Call (.Name x p) (e :: es) [] pos) (cCallD m dds g) := by
  obtain ⟨dvs, dv, hv, hb, hr⟩ := hd
  exact xe_callD Fg hv hb hr C hij hg ha hdb he hpl
end
/-- sorted(d) of a dict of the store, text keys -/
def keysS (kvs : List (Key × D)) : Option (List Str) := kvs.mapM fun kv => match kv.1 with
  | .inr s => some s
  | .inl _ => none
end G
set_option maxHeartbeats 2000000
namespace G
open PySem PySem.Spec PyProof.Rows L2
section
variable {X : Cx} {E : L2.XK} {j : Nat} (C : CtxOk X E j)
include C
theorem CtxOk.u0 : X.A.units < cLine := by have := C.room.un; omega
theorem CtxOk.u1 : X.A.units + 1 < cLine := by have := C.room.un; omega
theorem CtxOk.u2 : X.A.units + 2 < cLine := by have := C.room.un; omega
theorem CtxOk.u64 : X.A.units + 64 < cLine := by have := C.room.un; omega
theorem CtxOk.u65 : X.A.units + 65 < cLine := by have := C.room.un; omega
theorem CtxOk.u70 : X.A.units + 70 < cLine := by have := C.room.un; omega
end
/-- d.get(k, x) -/
def cDGet2 (fo fa fb : SemE) : SemE := fun ρ M => (fo ρ M).bind fun x M1 => (match x with | .ref n => (match dicAt M1 n with | some _ => Res.ok x M1 | none => .bad) | _ => .bad).bind fun x M2 => (fa ρ M2).bind fun y M3 => (fb ρ M3).bind fun z M4 => dget2D x y z M4
end G
namespace G
open PySem PySem.Spec PyProof.Rows L2
theorem Res.bind_assoc {α β γ : Type} (r : Res α) (f : α → Mem → Res β) (g : β → Mem → Res γ) : (r.bind f).bind g = r.bind fun a M => (f a M).bind g := by
  cases r <;> rfl
section
variable {X : Cx} {E : L2.XK} {a : Expr} {fa : SemE} {x : Str} {kvs : List (Str × D)} {pos p : Pos}
theorem xt_tabIn (hg : Gl X x) (h : GTab X.K X.w X.mg x kvs) (ha : XE X E a fa) (hdb : (x == ("__debug__" : Str)) = false := by rfl) (hm : behindInMarks .In (.Name x p) = false := by rfl) : XT X E (.Compare a [.In] [.Name x p] pos) (cT (c1 (tabInD kvs) fa)) := by
  obtain ⟨d, es, n, h1, h2, h3⟩ := h
  refine ⟨fun k σ H ρ M re r0 Q q => ⟨_, pt_cmpR (op_in_kd h2) pe_we (pe_glob (v := .ref d) hg h1 rfl hdb) hm, ?_⟩⟩
  unfold cT c1 at q
  rw [Res.bind_assoc] at q
  refine ha.run k σ H ρ M re r0 _ (Post.bind q fun y M1 k1 v H1 s1 r1 q1 p1 => ?_)
  cases y with
  | str z =>
    have ht := tab_at (z := z) h3
    simp only [RepV] at q1
    subst q1
    simp only [tabInD, Res.bind_ok, asBl] at p1
    cases hl : lookS kvs z with
    | none => rw [hl] at ht p1; exact ⟨z, none, rfl, rfl, ht, _, rfl, p1.ret r1 rfl⟩
    | some dd =>
      rw [hl] at ht p1
      obtain ⟨u, v, e1, e2, e3⟩ := ht
      exact ⟨z, some u, rfl, rfl, e1, _, rfl, p1.ret r1 rfl⟩
  | _ => exact p1.elim
theorem xt_tabNotIn (hg : Gl X x) (h : GTab X.K X.w X.mg x kvs) (ha : XE X E a fa) (hdb : (x == ("__debug__" : Str)) = false := by rfl) (hm : behindInMarks .NotIn (.Name x p) = false := by rfl) : XT X E (.Compare a [.NotIn] [.Name x p] pos) (cT (c1 (tabNotInD kvs) fa)) := by
  obtain ⟨d, es, n, h1, h2, h3⟩ := h
  refine ⟨fun k σ H ρ M re r0 Q q => ⟨_, pt_cmpR (op_notIn_kd h2) pe_we (pe_glob (v := .ref d) hg h1 rfl hdb) hm, ?_⟩⟩
  unfold cT c1 at q
  rw [Res.bind_assoc] at q
  refine ha.run k σ H ρ M re r0 _ (Post.bind q fun y M1 k1 v H1 s1 r1 q1 p1 => ?_)
  cases y with
  | str z =>
    have ht := tab_at (z := z) h3
    simp only [RepV] at q1
    subst q1
    simp only [tabNotInD, Res.bind_ok, asBl] at p1
    cases hl : lookS kvs z with
    | none => rw [hl] at ht p1; exact ⟨z, none, rfl, rfl, ht, _, rfl, p1.ret r1 rfl⟩
    | some dd =>
      rw [hl] at ht p1
      obtain ⟨u, v, e1, e2, e3⟩ := ht
      exact ⟨z, some u, rfl, rfl, e1, _, rfl, p1.ret r1 rfl⟩
  | _ => exact p1.elim
end
end G
namespace G
open PySem PySem.Spec PyProof.Rows L2
/-! ### calls with keywords, the values put in the parameters' order -/
def permL {α : Type} (is : List Nat) (xs : List α) : List α := is.filterMap (xs[·]?)
def KBnP (K : PySem.W.Frag) (fd : FuncData) (ps : List Str) (n : Nat) (ks : List Str) (is : List Nat) : Prop := KBn K fd ps n ks (fun us ws => permL is (us ++ ws)) (fun vs zs => permL is (vs ++ zs))
theorem vals_get {xs : List V} {us : List Value} (r : Vals xs us) : ∀ i : Nat, (xs[i]? = none ∧ us[i]? = none) ∨ ∃ x u, xs[i]? = some x ∧ us[i]? = some u ∧ RelV x u := by
  induction r with
  | nil => intro i; exact .inl ⟨rfl, rfl⟩
  | cons h t ih =>
    intro i
    cases i with
    | zero => exact .inr ⟨_, _, rfl, rfl, h⟩
    | succ i => simpa using ih i
theorem permL_vals {xs : List V} {us : List Value} (r : Vals xs us) : ∀ is : List Nat, Vals (permL is xs) (permL is us)
  | [] => .nil
  | i :: is => by
    unfold permL
    rw [List.filterMap_cons, List.filterMap_cons]
    rcases vals_get r i with ⟨h1, h2⟩ | ⟨x, u, h1, h2, h3⟩
    · rw [h1, h2]; exact permL_vals r is
    · rw [h1, h2]; exact .cons h3 (permL_vals r is)
theorem permL_rep {K : PySem.W.Frag} {k : Kn} {ds : List D} {vs : List V} (r : RepL K k ds vs) : ∀ is : List Nat, RepL K k (permL is ds) (permL is vs)
  | [] => RepL.nil
  | i :: is => by
    unfold permL
    rw [List.filterMap_cons, List.filterMap_cons]
    cases h : ds[i]? with
    | none =>
      have : vs[i]? = none := by rw [List.getElem?_eq_none_iff] at h ⊢; rw [r.length]; exact h
      rw [this]; exact permL_rep r is
    | some d =>
      obtain ⟨v, h1, h2⟩ := r.get h
      rw [h1]
      exact RepL.cons h2 (permL_rep r is)
theorem kbnP_of {K : PySem.W.Frag} {x qual : Str} {params : Arguments} {body : List Stmt} {scope : Scope} {kws : List (Str × V)} {f : Addr} {fd : FuncData} {ps ks : List Str} {n : Nat} {is : List Nat} (F : FunD K x qual params body scope [] kws f fd)
    (h : ∀ (kV doc pm : Value) (an : Option Addr) (cdv ct : Value) (us ws : List Value), us.length = n → ws.length = ks.length → bindArgs (PySem.W.fnOf x qual params body scope .none kV doc pm an cdv ct) ⟨us, ks.zip ws⟩ = pure (ps.zip (permL is (us ++ ws)))) : KBnP K fd ps n ks is := by
  obtain ⟨oc, od, dV, kV, doc, pm, an, cdv, ct, osl, rfl, lk, hcd, hD, hK⟩ := F.ex
  rcases hD with ⟨_, rfl⟩ | ⟨e, _⟩
  · exact ⟨fun s us ws _ l1 l2 => .of_eq (h kV doc pm an cdv ct us ws l1 l2), fun r1 r2 => permL_vals (r1.append r2) is⟩
  · exact absurd rfl e
def cCallP (m : List D → Mem → Res D) (is : List Nat) (n l : Nat) (g gk : SemA) : SemE := fun ρ M => (g ρ M).bind fun ds M1 => (gk ρ M1).bind fun es M2 => if ds.length = n ∧ es.length = l then m (permL is (ds ++ es)) M2 else .bad
section
variable {X : Cx} {E : L2.XK} {x : Str} {i j n : Nat} {m : List D → Mem → Res D} {e : Expr} {es : List Expr} {kws : List Keyword} {g gk : SemA} {p pos : Pos} {is : List Nat}
theorem xe_callP0 {f : Addr} {fd : FuncData} {ps ks : List Str} (Fg : FnG X.prog X.w X.K X.mg X.base x f fd ps i m) (hb : KBnP X.K fd ps 0 ks is) (C : CtxOk X E j) (hij : i ≤ j) (hg : Gl X x) (hkw : XKw X E kws gk)
    (hall : (backToKw pos (keywordEach kws X.env)).all (·.1.isSome) = true := by rfl) (hks : (backToKw pos (keywordEach kws X.env)).filterMap (·.1) = ks := by rfl)
    (hdb : (x == ("__debug__" : Str)) = false := by decide) (hpl : ((backTo pos (starEach [] X.env)).any (·.1) || (backToKw pos (keywordEach kws X.env)).any (·.1.isNone)) = false := by rfl) :
    XE X E (.Call (.Name x p) [] kws pos) (cCallP m is 0 ks.length cNil gk) :=
  xe_callK0 (gD := fun ds es => permL is (ds ++ es)) Fg hb (fun r1 r2 => permL_rep (r1.append r2) is) C hij hg hkw hall hks hdb hpl
theorem xe_callP {f : Addr} {fd : FuncData} {ps ks : List Str} (Fg : FnG X.prog X.w X.K X.mg X.base x f fd ps i m) (hb : KBnP X.K fd ps n ks is) (C : CtxOk X E j) (hij : i ≤ j) (hg : Gl X x) (ha : XA X E (e :: es) g) (hkw : XKw X E kws gk)
    (hall : (backToKw pos (keywordEach kws X.env)).all (·.1.isSome) = true := by rfl) (hks : (backToKw pos (keywordEach kws X.env)).filterMap (·.1) = ks := by rfl)
    (hdb : (x == ("__debug__" : Str)) = false := by decide) (he : starEach (e :: es) X.env = (false, eval e X.env) :: starEach es X.env := by rfl)
    (hpl : ((backTo pos (starEach (e :: es) X.env)).any (·.1) || (backToKw pos (keywordEach kws X.env)).any (·.1.isNone)) = false := by rfl) :
    XE X E (.Call (.Name x p) (e :: es) kws pos) (cCallP m is n ks.length g gk) := by
  refine ⟨fun k σ H ρ M re r0 Q q => ⟨_, pe_callNG Fg.ok (C.room.mono hij) C.gd hg Fg.hm Fg.hk hb C.pass pa_wa pk_wk hall hks hdb he hpl, ?_⟩⟩
  refine ha.run k σ H ρ M re r0 _ (Post.bind q fun ds M1 k1 vs H1 s1 r1 q1 p1 => ?_)
  refine hkw.run k1 σ H1 ρ M1 (re.mono s1.le) r1 _ (Post.bind p1 fun es' M2 k2 zs H2 s2 r2 q2 p2 => ?_)
  by_cases hl : ds.length = n ∧ es'.length = ks.length
  · rw [if_pos hl] at p2
    exact ⟨by rw [q1.length]; exact hl.1, by rw [q2.length]; exact hl.2, k2, _, M2, r2, permL_rep ((q1.mono s2.le).append q2) is, p2⟩
  · rw [if_neg hl] at p2
    exact p2.elim
end
end G
set_option maxHeartbeats 2000000
namespace G
open PySem PySem.Spec PyProof.Rows L2
/-! ### sorted(dict(pairs)), the keys tuples of ints -/
def addL {β : Type} [DecidableEq β] (acc : List β) (k : β) : List β := if acc.any (fun x => decide (x = k)) then acc else acc ++ [k]
def firstsL {β : Type} [DecidableEq β] (ks : List β) : List β := ks.foldl addL []
def encT (k : List Int) : PyData := .tuple (k.map .int)
def rowLe (a b : List Int) : Bool := PySem.W.dataLe false encT a b
def sortRows (ks : List (List Int)) : List (List Int) := ks.mergeSort rowLe
def rowD (k : List Int) : D := .tup (k.map .int)
def pairKey : D → Option (List Int)
  | .tup [.tup ks, _] => if ks = [] then none else asInts ks
  | _ => none
def pairKeys : List D → Option (List (List Int))
  | [] => some []
  | d :: ds => (pairKey d).bind fun k => (pairKeys ds).map fun r => k :: r
noncomputable def cSortDict (f : SemE) : SemN := fun ρ M => (f ρ M).bind fun d M1 => match lstOf M1 d with
  | some ds => match pairKeys ds with
    | some ks => if ds.length ≤ 1000000 then .ok ((sortRows (firstsL ks)).map rowD) M1 else .bad
    | none => .bad
  | none => .bad
theorem addK_fst {β : Type} [DecidableEq β] (acc : List (β × Addr)) (q : β × Addr) : (addK acc q).map (·.1) = addL (acc.map (·.1)) q.1 := by
  unfold addK addL
  rw [List.any_map]
  by_cases h : acc.any (fun x => decide (x.1 = q.1)) = true
  · rw [if_pos h, if_pos (by exact h)]
  · rw [if_neg h, if_neg (by exact h), List.map_append]
    rfl
theorem foldK_fst {β : Type} [DecidableEq β] : ∀ (ks acc : List (β × Addr)), (ks.foldl addK acc).map (·.1) = (ks.map (·.1)).foldl addL (acc.map (·.1))
  | [], acc => rfl
  | q :: ks, acc => by
    rw [List.foldl_cons, foldK_fst ks, addK_fst]
    rfl
theorem foldK_map {β γ : Type} [DecidableEq β] [DecidableEq γ] (g : β → γ) (hg : ∀ a b, g a = g b → a = b) : ∀ (ks acc : List (β × Addr)), (ks.map fun q => (g q.1, q.2)).foldl addK (acc.map fun q => (g q.1, q.2)) = (ks.foldl addK acc).map fun q => (g q.1, q.2)
  | [], acc => rfl
  | q :: ks, acc => by
    rw [List.map_cons, List.foldl_cons, List.foldl_cons, ← foldK_map g hg ks]
    congr 1
    unfold addK
    rw [List.any_map]
    have e : ((fun x : γ × Addr => decide (x.1 = g q.1)) ∘ fun x : β × Addr => (g x.1, x.2)) = fun x : β × Addr => decide (x.1 = q.1) := by
      funext x
      show decide (g x.1 = g q.1) = decide (x.1 = q.1)
      exact decide_eq_decide.mpr ⟨fun z => hg _ _ z, fun z => by rw [z]⟩
    rw [e]
    by_cases h : acc.any (fun x => decide (x.1 = q.1)) = true
    · rw [if_pos h, if_pos h]
    · rw [if_neg h, if_neg h, List.map_append]
      rfl
theorem foldK_mem {β : Type} [DecidableEq β] : ∀ (ks acc : List (β × Addr)) (x : β × Addr), x ∈ ks.foldl addK acc → x ∈ acc ∨ x ∈ ks
  | [], acc, x, h => .inl h
  | q :: ks, acc, x, h => by
    rcases foldK_mem ks _ x h with h | h
    · unfold addK at h
      split at h
      · exact .inl h
      · rcases List.mem_append.mp h with h | h
        · exact .inl h
        · rw [List.mem_singleton.mp h]; exact .inr List.mem_cons_self
    · exact .inr (List.mem_cons_of_mem _ h)
theorem foldK_len {β : Type} [DecidableEq β] : ∀ (ks acc : List (β × Addr)), (ks.foldl addK acc).length ≤ acc.length + ks.length
  | [], acc => by simp
  | q :: ks, acc => by
    have h1 := foldK_len ks (addK acc q)
    have h2 : (addK acc q).length ≤ acc.length + 1 := by unfold addK; split <;> simp
    rw [List.foldl_cons, List.length_cons]
    omega
theorem dep_ints : ∀ xs : List Int, (encT xs).depth ≤ 60 := fun xs => by
  show PyData.depth (.tuple (xs.map .int)) ≤ 60
  rw [PyData.depth, PySem.W.depth_ints]
  omega
theorem nodict_ints : ∀ xs : List Int, PyData.hasDictAll (xs.map .int) = false
  | [] => rfl
  | x :: xs => by
    show PyData.hasDictAll (.int x :: xs.map .int) = false
    rw [PyData.hasDictAll, nodict_ints xs]
    rfl
theorem dp_ints {K : PySem.W.Frag} {H : Hp} : ∀ xs : List Int, DpAll K H (xs.map V.int) (xs.map .int)
  | [] => .nil
  | x :: xs => .cons (.int x) (dp_ints xs)
theorem inl_inj : ∀ a b : List Int, (a.map Sum.inl : List Key) = b.map Sum.inl → a = b
  | [], [], _ => rfl
  | [], _ :: _, h => by simp at h
  | _ :: _, [], h => by simp at h
  | x :: xs, y :: ys, h => by
    rw [List.map_cons, List.map_cons] at h
    injection h with h1 h2
    injection h1 with h1
    rw [h1, inl_inj xs ys h2]
section
variable {X : Cx} {E : L2.XK} {e : Expr} {f : SemE}
theorem pair_reps {k : Kn} : ∀ {ds : List D} {xs : List V} {ks : List (List Int)}, pairKeys ds = some ks → RepL X.K k ds xs →
    ∃ (ps : List Addr) (kas : List (List Int × Addr)), xs = ps.map V.ref ∧ kas.map (·.1) = ks ∧ (∀ q ∈ kas, q.1 ≠ [] ∧ SqT X.K k.H q.2 (q.1.map V.int)) ∧
      Paired (fun p q => (∃ y, SqT X.K k.H p [.ref q.2, y]) ∧ SqT X.K k.H q.2 (q.1.map kV)) ps (kas.map fun q => ((q.1.map Sum.inl : List Key), q.2))
  | [], xs, ks, h, r => by
    simp only [RepL] at r
    subst r
    cases h
    exact ⟨[], [], rfl, rfl, fun q hq => absurd hq (by simp), .nil⟩
  | d :: ds, xs, ks, h, r => by
    simp only [RepL] at r
    obtain ⟨x, r', rfl, r1, r2⟩ := r
    simp only [pairKeys, Option.bind_eq_some_iff, Option.map_eq_some_iff] at h
    obtain ⟨kk, h1, ks', h2, rfl⟩ := h
    obtain ⟨ps, kas, e1, e2, e3, e4⟩ := pair_reps h2 r2
    unfold pairKey at h1
    split at h1
    · rename_i es y
      split at h1
      · cases h1
      · rename_i hne
        have hes := asInts_eq h1
        subst hes
        simp only [RepV] at r1
        obtain ⟨p, zs, rfl, hs, rl⟩ := r1
        simp only [RepL] at rl
        obtain ⟨v1, _, rfl, rv1, v2, _, rfl, rv2, rfl⟩ := rl
        simp only [RepV] at rv1
        obtain ⟨ka, us, rfl, hka, rus⟩ := rv1
        have hus := rus.ints
        subst hus
        refine ⟨p :: ps, (kk, ka) :: kas, by rw [e1]; rfl, by rw [List.map_cons, e2], fun q hq => ?_, ?_⟩
        · rcases List.mem_cons.mp hq with e | hq
          · subst e
            exact ⟨fun z => hne (by simp [show kk = [] from z]), hka⟩
          · exact e3 q hq
        · refine .cons ⟨⟨_, hs⟩, ?_⟩ e4
          have em : (kk.map Sum.inl : List Key).map kV = kk.map V.int := by rw [List.map_map]; rfl
          show SqT X.K k.H ka ((kk.map Sum.inl : List Key).map kV)
          rw [em]
          exact hka
    · cases h1
theorem sqT_upd {K : PySem.W.Frag} {H : Hp} {p a : Addr} {o : HO} {xs : List V} (hp : H p = none) (h : SqT K H a xs) : SqT K (upd H p o) a xs := seqT_same (same_upd0 hp) h
theorem xn_sortDict {p1 p2 pos pos2 : Pos} (hc : X.calm = true) (hu : X.A.units + 70 < cLine) (hg : Gl X "sorted") (hm : X.mg "sorted" = none) (hgd : Gl X "dict") (hmd : X.mg "dict" = none) (h : XE X E e f)
    (hv : bootBuiltins "sorted" = some (.builtin "sorted") := by rfl) (hvd : bootBuiltins "dict" = some (.type "dict") := by rfl)
    (he : starEach [e] X.env = (false, eval e X.env) :: starEach [] X.env := by rfl) (he2 : starEach [.Call (.Name "dict" p2) [e] [] pos2] X.env = (false, eval (.Call (.Name "dict" p2) [e] [] pos2) X.env) :: starEach [] X.env := by rfl)
    (hpl : (backTo pos (starEach [] X.env)).any (·.1) = false := by rfl) (hpl2 : (backTo pos2 (starEach [] X.env)).any (·.1) = false := by rfl) :
    XN X E (.Call (.Name "sorted" p1) [.Call (.Name "dict" p2) [e] [] pos2] [] pos) (cSortDict f) := by
  refine ⟨fun k σ H ρ M re r0 Q q => ⟨_, pe_callB (he := he2) (hpl := hpl) call_wcall hg hm hv (pa_cons (pe_callTy (he := he) (hpl := hpl2) call_wcall hgd hmd hvd (pa_cons pe_we pa_nil he)) pa_nil he2), ?_⟩⟩
  refine h.run k σ H ρ M re r0 _ (PostN.bind q fun d M1 k1 v H1 s1 r1 q1 p1 => ?_)
  split at p1
  · rename_i ds hds
    split at p1
    · rename_i ks hks
      split at p1
      · rename_i hz
        obtain ⟨a, xs, rfl, hs, rl⟩ := lst_view r1 hds q1
        obtain ⟨ps, kas, rfl, e2, e3, e4⟩ := pair_reps hks rl
        have e4' : Paired (fun p q => (∃ y, SqT X.K H1 p [.ref q.2, y]) ∧ SqT X.K H1 q.2 (q.1.map kV)) ps (kas.map fun q => ((q.1.map Sum.inl : List Key), q.2)) :=
          Paired.mapP e4 fun _ _ z => ⟨z.1.imp fun _ z => seqT_same r1.ex z, seqT_same r1.ex z.2⟩
        refine ⟨_, call_dictPT hc (by omega), a, ps, _, rfl, hs, e4', fun p hp => ?_⟩
        have efold := foldK_map (fun k : List Int => (k.map Sum.inl : List Key)) inl_inj kas []
        rw [List.map_nil] at efold
        rw [efold, List.map_map]
        have hf := r1.free hp
        refine ⟨_, call_sortedRaw (β := List Int × Addr) (fun b => encT b.1) (fun b => .ref b.2) hc hu, p, _, kas.foldl addK [], rfl, upd_same, ?_, fun b hb => ?_, ?_, ?_, ?_, fun l hl => ?_⟩
        · rw [List.map_map]
          rfl
        · have hb' := (foldK_mem kas [] b hb).resolve_left (by simp)
          refine ⟨.tup (sqT_upd hp (seqT_same r1.ex (e3 b hb').2)) (dp_ints b.1), ?_, dep_ints b.1⟩
          show PyData.hasDict (.tuple (b.1.map .int)) = false
          rw [PyData.hasDict]
          exact nodict_ints b.1
        · exact PySem.W.AllAlike.of fun b b' => PySem.W.alike_ints b.1 b'.1
        · refine .inl fun d hd => ?_
          obtain ⟨b, hb, rfl⟩ := List.mem_map.mp hd
          have hb' := (foldK_mem kas [] b hb).resolve_left (by simp)
          have hne := (e3 b hb').1
          obtain ⟨b1, b2⟩ := b
          cases b1 with
          | nil => exact absurd rfl hne
          | cons x r => exact ⟨_, _, rfl⟩
        · refine Nat.le_trans (foldK_len kas []) ?_
          have hl : kas.length = ds.length := by
            have h1 := congrArg List.length e2
            have h2 : ∀ {ds : List D} {ks : List (List Int)}, pairKeys ds = some ks → ks.length = ds.length := by
              intro ds
              induction ds with
              | nil => intro ks h; cases h; rfl
              | cons d ds ih =>
                intro ks h
                simp only [pairKeys, Option.bind_eq_some_iff, Option.map_eq_some_iff] at h
                obtain ⟨kk, h1, ks', h2, rfl⟩ := h
                rw [List.length_cons, List.length_cons, ih h2]
            rw [List.length_map] at h1
            rw [h1, h2 hks]
          simp only [List.length_nil]
          omega
        · -- the result
          have hsort : (((kas.foldl addK []).mergeSort (PySem.W.dataLe false fun b => encT b.1)).map (·.1)) = sortRows (firstsL ks) := by
            have h1 : (kas.foldl addK []).map (·.1) = firstsL ks := by
              rw [foldK_fst, e2]
              rfl
            unfold sortRows
            rw [← h1]
            exact List.map_mergeSort fun a _ b _ => rfl
          have hrep : ∀ {cs : List (List Int × Addr)}, (∀ b ∈ cs, b ∈ kas) → RepL X.K k1 ((cs.map (·.1)).map rowD) (cs.map fun b => V.ref b.2) := by
            intro cs
            induction cs with
            | nil => intro _; exact RepL.nil
            | cons b cs ih =>
              intro hb
              rw [List.map_cons, List.map_cons, List.map_cons]
              refine RepL.cons ?_ (ih fun x hx => hb x (List.mem_cons_of_mem _ hx))
              simp only [rowD, RepV]
              exact ⟨b.2, _, rfl, (e3 b (hb b List.mem_cons_self)).2, RepL.of_ints b.1⟩
          rw [← hsort] at p1
          have h3 := hrep (cs := (kas.foldl addK []).mergeSort (PySem.W.dataLe false fun b => encT b.1)) fun b hb => (foldK_mem kas [] b (List.mem_mergeSort.mp hb)).resolve_left (by simp)
          have hl1 : H1 l = none := by
            by_cases e : l = p
            · rw [e]; exact hp
            · rw [upd_ne e] at hl; exact hl
          have hlp : l ≠ p := fun e => by rw [e, upd_same] at hl; cases hl
          exact p1 k1 (upd (upd H1 p _) l (.lst _)) l _ ((Stp.new hp).trans (Stp.new hl)) ((r1.new hp).new hl) upd_same (r1.free hl1).1 (r1.free hl1).2 hl1 h3
      · exact p1.elim
    · exact p1.elim
  · exact p1.elim
end
end G
set_option maxHeartbeats 2000000
namespace G
open PySem PySem.Spec PyProof.Rows L2
/-! ### sorted(d), d a dict with text keys -/
theorem ltCps_eq : ∀ a b : List Nat, ltCps a b = decide (a < b)
  | [], [] => by simp [ltCps]
  | [], _ :: _ => by simp [ltCps]
  | _ :: _, [] => by simp [ltCps]
  | a :: r, b :: t => by
    rw [ltCps, ltCps_eq r t]
    simp only [List.cons_lt_cons_iff]
    by_cases h : a < b
    · simp [h]
    · by_cases h2 : a = b
      · simp [h2]
      · simp [h, h2]
def leS (a b : Str) : Bool := !ltCps b.cps.toList a.cps.toList
theorem leS_iff {a b : Str} : leS a b = true ↔ a.cps.toList ≤ b.cps.toList := by
  unfold leS
  rw [ltCps_eq]
  simp [List.not_lt]
theorem leS_trans {a b c : Str} (h1 : leS a b = true) (h2 : leS b c = true) : leS a c = true := leS_iff.mpr (List.le_trans (leS_iff.mp h1) (leS_iff.mp h2))
theorem leS_total (a b : Str) : (leS a b || leS b a) = true := by
  have := List.le_total a.cps.toList b.cps.toList
  rcases this with h | h
  · rw [leS_iff.mpr h]; rfl
  · rw [leS_iff.mpr h]; simp
theorem leS_anti {a b : Str} (h1 : leS a b = true) (h2 : leS b a = true) : a = b := by
  have e := List.le_antisymm (leS_iff.mp h1) (leS_iff.mp h2)
  obtain ⟨a⟩ := a
  obtain ⟨b⟩ := b
  have e' : a.toList = b.toList := e
  rw [Array.toList_inj.mp e']
theorem sortedS_pw : ∀ {ys : List Str}, sortedS ys = true → ys.Pairwise fun a b => leS a b = true := by
  have key : ∀ (ys : List Str) (x : Str), risingS x ys = true → (x :: ys).Pairwise fun a b => leS a b = true := by
    intro ys
    induction ys with
    | nil => intro x _; exact List.pairwise_singleton _ _
    | cons y ys ih =>
      intro x h
      simp only [risingS, Bool.and_eq_true] at h
      have h2 := ih y h.2
      refine List.pairwise_cons.mpr ⟨fun z hz => ?_, h2⟩
      have h3 : leS x y = true := h.1
      rcases List.mem_cons.mp hz with e | hz
      · rw [e]; exact h3
      · exact leS_trans h3 ((List.pairwise_cons.mp h2).1 z hz)
  intro ys h
  cases ys with
  | nil => exact List.Pairwise.nil
  | cons x ys => exact key ys x h
def sortS (ks : List Str) : List Str := ks.mergeSort leS
theorem sortS_eq {ys ks : List Str} (hp : ys.Perm ks) (hs : sortedS ys = true) : ys = sortS ks := by
  refine List.Perm.eq_of_pairwise (le := fun a b => leS a b = true) (fun a b _ _ => leS_anti) (sortedS_pw hs) ?_ (hp.trans (List.mergeSort_perm ks leS).symm)
  exact List.pairwise_mergeSort (le := leS) (fun a b c => leS_trans) (fun a b => leS_total a b) ks
def textKeys : List (Key × D) → Option (List Str)
  | [] => some []
  | (.inr x, _) :: r => (textKeys r).map fun q => x :: q
  | (.inl _, _) :: _ => none
theorem textKeys_eq : ∀ {kvs : List (Key × D)} {ks : List Str}, textKeys kvs = some ks → kvs.map (·.1) = ks.map Sum.inr
  | [], _, h => by cases h; rfl
  | (.inr x, d) :: r, ks, h => by
    simp only [textKeys, Option.map_eq_some_iff] at h
    obtain ⟨q, h1, rfl⟩ := h
    rw [List.map_cons, List.map_cons, textKeys_eq h1]
  | (.inl _, _) :: _, _, h => by cases h
def sortKD (ds : List D) (M : Mem) : Res (List D) := match ds with
  | [.ref n] => match dicAt M n with
    | some kvs => match textKeys kvs with
      | some ks => if ks.length < 64 then .ok ((sortS ks).map D.str) M else .bad
      | none => .bad
    | none => .bad
  | _ => .bad
section
variable {X : Cx} {E : L2.XK}
theorem cn_sortK (hc : X.calm = true) : CallN X E (.builtin "sorted") sortKD := by
  intro k H M ds vs r0 rl Q p
  unfold sortKD at p
  split at p
  · rename_i n
    split at p
    · rename_i kvs hd
      split at p
      · rename_i ks hk
        split at p
        · rename_i hz
          obtain ⟨v, rfl, rv⟩ := rl.one
          obtain ⟨a, kvs', rfl, _, e1, rk⟩ := dic_at r0 rv hd
          have ek : ∀ {kvs : List (Key × D)} {kvs' : List (Key × V)}, RepKV X.K k kvs kvs' → kvs'.map (·.1) = kvs.map (·.1) := by
            intro kvs kvs' h
            induction h with
            | nil => rfl
            | cons h t ih => rw [List.map_cons, List.map_cons, ih, h.1]
          refine ⟨_, call_sortedD hc, a, kvs', ks, rfl, .inl e1, by rw [ek rk, textKeys_eq hk], hz, fun ys q hy hs hq => ?_⟩
          rw [sortS_eq hy hs]
          exact p.new r0 hq (RepL.of_strs _)
        · exact p.elim
      · exact p.elim
    · exact p.elim
  · exact p.elim
end
end G
set_option maxHeartbeats 2000000
namespace G
open PySem PySem.Spec PyProof.Rows L2
/-- the law's promise at a script, by its value -/
theorem law_sp {K : PySem.W.Frag} {mg : Str → Option Value} {m : List D → Mem → Res D} {H : Hp} {a : Addr} {ns : List Int} {E : L2.XK} (hS : SqL K H a (ns.map V.int)) (h : ∃ M, m [.lst (ns.map D.int)] [] = .ok (.bl true) M) : spF K mg m [.ref a] H (fun v _ => v = .bl true) E := by
  obtain ⟨M, h⟩ := h
  refine ⟨⟨H, []⟩, [.lst (ns.map D.int)], [], ⟨Same.refl _, rfl, List.nodup_nil, fun a ha => absurd ha (by simp), fun i a o h => by simp at h⟩, RepL.cons ?_ RepL.nil, ?_⟩
  · simp only [RepV]
    exact ⟨a, _, rfl, hS, RepL.of_ints ns⟩
  · rw [h]
    intro k' v H' s r rv
    simpa only [RepV] using rv
theorem gint_of {mg : Str → Option Value} {x : Str} {i : Int} (h : ∃ t, mg x = some (.int i t)) : GInt mg x i := by
  obtain ⟨t, h⟩ := h
  exact ⟨_, h, t, rfl⟩
theorem gtab_of {K : PySem.W.Frag} {w : World} {mg : Str → Option Value} {x : Str} {a : Addr} {kvs : List (Str × D)} (h : mg x = some (.ref a)) (t : ∃ es n, KDict K w a es n) (b : tabB K a kvs = true) : GTab K w mg x kvs := by
  obtain ⟨es, n, t⟩ := t
  exact ⟨a, es, n, h, t, b⟩
theorem dfl_of {K : PySem.W.Frag} {fd : FuncData} {ps : List Str} {dvs : List V} {dds : List D} (h : ∃ ds, Vals dvs ds ∧ L2.Binds K fd ps ds) (hr : ∀ k, RepL K k dds dvs) : DflOk K fd ps dds := by
  obtain ⟨ds, h1, h2⟩ := h
  exact ⟨dvs, ds, h1, h2, hr⟩
theorem binds_nil {K : PySem.W.Frag} {fd : FuncData} {ps : List Str} {dvs : List V} (h : ∃ ds, Vals dvs ds ∧ L2.Binds K fd ps ds) (e : dvs = []) : L2.Binds K fd ps [] := by
  obtain ⟨ds, h1, h2⟩ := h
  subst e
  cases h1
  exact h2
end G
set_option maxHeartbeats 2000000
namespace G
open PySem PySem.Spec PyProof.Rows L2
/-! ### what a computation satisfies -/
def Sat {α : Type} (r : Res α) (P : α → Mem → Prop) : Prop := match r with
  | .ok a M => P a M
  | _ => False
structure Fl where
  nx : Env → Mem → Prop
  rt : D → Mem → Prop
  bk : Env → Mem → Prop
  ct : Env → Mem → Prop
def SatF (f : Flow) (q : Fl) : Prop := match f with
  | .nx ρ M => q.nx ρ M
  | .rt d M => q.rt d M
  | .bk ρ M => q.bk ρ M
  | .ct ρ M => q.ct ρ M
  | _ => False
@[simp] theorem sat_ok {α : Type} {a : α} {M : Mem} {P : α → Mem → Prop} : Sat (.ok a M) P ↔ P a M := Iff.rfl
@[simp] theorem sat_bad {α : Type} {P : α → Mem → Prop} : Sat (.bad : Res α) P ↔ False := Iff.rfl
@[simp] theorem satF_nx {ρ : Env} {M : Mem} {q : Fl} : SatF (.nx ρ M) q ↔ q.nx ρ M := Iff.rfl
@[simp] theorem satF_rt {d : D} {M : Mem} {q : Fl} : SatF (.rt d M) q ↔ q.rt d M := Iff.rfl
@[simp] theorem satF_bk {ρ : Env} {M : Mem} {q : Fl} : SatF (.bk ρ M) q ↔ q.bk ρ M := Iff.rfl
@[simp] theorem satF_ct {ρ : Env} {M : Mem} {q : Fl} : SatF (.ct ρ M) q ↔ q.ct ρ M := Iff.rfl
@[simp] theorem satF_bad {q : Fl} : SatF .bad q ↔ False := Iff.rfl
@[simp] theorem sat_bind {α β : Type} {r : Res α} {g : α → Mem → Res β} {Q : β → Mem → Prop} : Sat (r.bind g) Q ↔ Sat r fun a M => Sat (g a M) Q := by
  cases r <;> exact Iff.rfl
@[simp] theorem satF_flow {α : Type} {r : Res α} {g : α → Mem → Flow} {q : Fl} : SatF (r.flow g) q ↔ Sat r fun a M => SatF (g a M) q := by
  cases r <;> exact Iff.rfl
@[simp] theorem satF_then {f : Flow} {g : Env → Mem → Flow} {q : Fl} : SatF (f.then g) q ↔ SatF f { q with nx := fun ρ M => SatF (g ρ M) q } := by
  cases f <;> exact Iff.rfl
theorem Sat.imp {α : Type} {r : Res α} {P Q : α → Mem → Prop} (h : Sat r P) (i : ∀ a M, P a M → Q a M) : Sat r Q := by
  cases r with
  | ok a M => exact i a M h
  | exc c x M => exact h
  | bad => exact h
theorem SatF.imp {f : Flow} {p q : Fl} (h : SatF f p) (h1 : ∀ ρ M, p.nx ρ M → q.nx ρ M) (h2 : ∀ d M, p.rt d M → q.rt d M) (h3 : ∀ ρ M, p.bk ρ M → q.bk ρ M) (h4 : ∀ ρ M, p.ct ρ M → q.ct ρ M) : SatF f q := by
  cases f with
  | nx ρ M => exact h1 _ _ h
  | rt d M => exact h2 _ _ h
  | bk ρ M => exact h3 _ _ h
  | ct ρ M => exact h4 _ _ h
  | exc c x M => exact h
  | bad => exact h
theorem Sat.eq {α : Type} {r : Res α} {P : α → Mem → Prop} (h : Sat r P) : ∃ a M, r = .ok a M ∧ P a M := by
  cases r with
  | ok a M => exact ⟨a, M, rfl, h⟩
  | exc c x M => exact h.elim
  | bad => exact h.elim
theorem Sat.of {α : Type} {r : Res α} {a : α} {M : Mem} {P : α → Mem → Prop} (e : r = .ok a M) (h : P a M) : Sat r P := by rw [e]; exact h
@[simp] theorem sat_ite {α : Type} {c : Prop} [Decidable c] {r s : Res α} {P : α → Mem → Prop} : Sat (if c then r else s) P ↔ (c → Sat r P) ∧ (¬ c → Sat s P) := by
  by_cases h : c <;> simp [h]
@[simp] theorem satF_ite {c : Prop} [Decidable c] {r s : Flow} {q : Fl} : SatF (if c then r else s) q ↔ (c → SatF r q) ∧ (¬ c → SatF s q) := by
  by_cases h : c <;> simp [h]
/-! ### the combinators at an environment -/
section
variable {ρ : Env} {M : Mem} {f g h : SemE} {t u : SemT} {a b : SemA} {s s' : SemS} {i : Nat} {d x y : D}
@[simp] theorem cVar_at : cVar i ρ M = match ρ[i]? with
  | some (some d) => .ok d M
  | _ => .bad := rfl
@[simp] theorem cC_at : cC d ρ M = .ok d M := rfl
@[simp] theorem c1_at {o : D → Mem → Res D} : c1 o f ρ M = (f ρ M).bind o := rfl
@[simp] theorem c2_at {o : D → D → Mem → Res D} : c2 o f g ρ M = (f ρ M).bind fun a M1 => (g ρ M1).bind fun b M2 => o a b M2 := rfl
@[simp] theorem cT_at : cT f ρ M = (f ρ M).bind asBl := rfl
@[simp] theorem asBl_bl {b : Bool} : asBl (.bl b) M = .ok b M := rfl
@[simp] theorem cChain_at {o o' : D → D → Mem → Res D} : cChain o o' f g h ρ M = (f ρ M).bind fun a M1 => (g ρ M1).bind fun b M2 => (o a b M2).bind fun z M3 => (asBl z M3).bind fun t M4 => if t then (h ρ M4).bind fun c M5 => o' b c M5 else .ok (.bl false) M4 := rfl
@[simp] theorem cAnd_at : cAnd t u ρ M = (t ρ M).bind fun b M1 => if b then u ρ M1 else .ok false M1 := rfl
@[simp] theorem cOr_at : cOr t u ρ M = (t ρ M).bind fun b M1 => if b then .ok true M1 else u ρ M1 := rfl
@[simp] theorem cNot_at : cNot t ρ M = (t ρ M).bind fun b M1 => .ok (!b) M1 := rfl
@[simp] theorem cAndV_at : cAndV f g ρ M = (f ρ M).bind fun x M1 => (asBl x M1).bind fun b M2 => if b then g ρ M2 else .ok (.bl false) M2 := rfl
@[simp] theorem cOrV_at : cOrV f g ρ M = (f ρ M).bind fun x M1 => (asBl x M1).bind fun b M2 => if b then .ok (.bl true) M2 else g ρ M2 := rfl
@[simp] theorem cNotV_at : cNotV f ρ M = (f ρ M).bind fun x M1 => (asBl x M1).bind fun b M2 => .ok (.bl (!b)) M2 := rfl
@[simp] theorem cIf_at : cIf t f g ρ M = (t ρ M).bind fun b M1 => if b then f ρ M1 else g ρ M1 := rfl
@[simp] theorem cNil_at : cNil ρ M = .ok [] M := rfl
@[simp] theorem cCons_at : cCons f a ρ M = (f ρ M).bind fun x M1 => (a ρ M1).bind fun xs M2 => .ok (x :: xs) M2 := rfl
@[simp] theorem cL_at {n : SemN} : cL n ρ M = (n ρ M).bind fun ds M1 => .ok (.lst ds) M1 := rfl
@[simp] theorem cR_at {n : SemN} : cR n ρ M = (n ρ M).bind fun ds M1 => .ok (.ref M1.length) (M1 ++ [.lst ds]) := rfl
@[simp] theorem cLst_at : cLst a ρ M = (a ρ M).bind fun ds M1 => if ds.length ≤ 1000000 then .ok ds M1 else .bad := rfl
@[simp] theorem cTup_at : cTup a ρ M = (a ρ M).bind fun ds M1 => if ds.length ≤ 1000000 then .ok (.tup ds) M1 else .bad := rfl
@[simp] theorem cSeq_at : cSeq s s' ρ M = (s ρ M).then s' := rfl
@[simp] theorem cEnd_at : cEnd ρ M = .nx ρ M := rfl
@[simp] theorem cRet_at : cRet f ρ M = (f ρ M).flow fun d M1 => .rt d M1 := rfl
@[simp] theorem cDo_at : cDo f ρ M = (f ρ M).flow fun _ M1 => .nx ρ M1 := rfl
@[simp] theorem cAsg_at {g : TgE} : cAsg f g ρ M = (f ρ M).flow fun d M1 => match g d ρ with
  | some ρ' => .nx ρ' M1
  | none => .bad := by
  unfold cAsg
  cases f ρ M with
  | ok d M1 =>
    cases hg : g d ρ with
    | none => simp [Res.flow, hg]
    | some ρ' => simp [Res.flow, hg]
  | exc c x M1 => rfl
  | bad => rfl
@[simp] theorem cIfS_at : cIfS t s s' ρ M = (t ρ M).flow fun b M1 => if b then s ρ M1 else s' ρ M1 := rfl
@[simp] theorem cPar_at {j : Nat} : cPar i j a ρ M = (a ρ M).flow fun ds M1 => match ds with
  | [x, y] => .nx ((ρ.set i (some x)).set j (some y)) M1
  | _ => .bad := rfl
@[simp] theorem cPar3_at {j l : Nat} : cPar3 i j l a ρ M = (a ρ M).flow fun ds M1 => match ds with
  | [x, y, z] => .nx (((ρ.set i (some x)).set j (some y)).set l (some z)) M1
  | _ => .bad := rfl
@[simp] theorem tgName_at : tgName i d ρ = some (ρ.set i (some d)) := rfl
@[simp] theorem tgNil_at : tgNil [] ρ = some ρ := rfl
@[simp] theorem tgCons_at {g : TgE} {h : TgL} {ds : List D} : tgCons g h (d :: ds) ρ = (g d ρ).bind (h ds) := rfl
@[simp] theorem tgSeq_tup {h : TgL} {ds : List D} : tgSeq h (.tup ds) ρ = h ds ρ := rfl
@[simp] theorem tgSeq_lst {h : TgL} {ds : List D} : tgSeq h (.lst ds) ρ = h ds ρ := rfl
@[simp] theorem cCall_at {m : List D → Mem → Res D} : cCall m a ρ M = (a ρ M).bind m := rfl
@[simp] theorem cCallN_at {m : List D → Mem → Res (List D)} : cCallN m a ρ M = (a ρ M).bind m := rfl
@[simp] theorem cCallD_at {m : List D → Mem → Res D} {dvs : List D} : cCallD m dvs a ρ M = (a ρ M).bind fun ds M1 => m (ds ++ dvs) M1 := rfl
@[simp] theorem cCallP_at {m : List D → Mem → Res D} {is : List Nat} {n l : Nat} : cCallP m is n l a b ρ M = (a ρ M).bind fun ds M1 => (b ρ M1).bind fun es M2 => if ds.length = n ∧ es.length = l then m (permL is (ds ++ es)) M2 else .bad := rfl
@[simp] theorem cIter_at : cIter f ρ M = (f ρ M).bind fun d M1 => liftS (srcOf M1 d) M1 := rfl
@[simp] theorem cFor_at {it : SemI} {g : TgE} : cFor it g s ρ M = (it ρ M).flow fun z M1 => forL z.gd g s z.ds ρ M1 := rfl
@[simp] theorem cComp_at {it : SemI} {g : TgE} {vs : List Nat} : cComp it g t f vs ρ M = (it ρ M).bind fun s M1 => if s.ds.length ≤ 1000000 then compL s.gd g t f (wipeD ρ vs) s.ds M1 else .bad := rfl
@[simp] theorem cM0_at {o : D → Mem → Res D} : cM0 o f ρ M = (f ρ M).bind fun d M1 => (isLst d M1).bind o := rfl
@[simp] theorem cM1_at {o : D → D → Mem → Res D} : cM1 o f g ρ M = (f ρ M).bind fun d M1 => (isLst d M1).bind fun d M2 => (g ρ M2).bind fun a M3 => o d a M3 := rfl
@[simp] theorem cSl_at {l k : SemO} : cSl f l k ρ M = (f ρ M).bind fun d M1 => (l ρ M1).bind fun l M2 => (k ρ M2).bind fun h M3 => sliceD d l h M3 := rfl
@[simp] theorem cNoP_at : cNoP ρ M = .ok none M := rfl
@[simp] theorem cPart_at : cPart f ρ M = (f ρ M).bind asInt := rfl
@[simp] theorem asInt_int {z : Int} : asInt (.int z) M = .ok (some z) M := rfl
@[simp] theorem cDisp_at {r : SemP} : cDisp r ρ M = (r ρ M).bind fun kvs M1 => if kvs.length ≤ 15 then .ok (.ref M1.length) (M1 ++ [.dic (mergeD kvs)]) else .bad := rfl
@[simp] theorem cPnil_at : cPnil ρ M = .ok [] M := rfl
@[simp] theorem cPcons_at {r : SemP} {k : Key} : cPcons k f r ρ M = (f ρ M).bind fun v M1 => (r ρ M1).bind fun kvs M2 => .ok ((k, v) :: kvs) M2 := rfl
@[simp] theorem cYes_at : cYes ρ M = .ok true M := rfl
@[simp] theorem liftS_some {z : Src} : liftS (some z) M = .ok z M := rfl
@[simp] theorem liftS_none : liftS none M = .bad := rfl
end
/-! ### loops -/
theorem forL_sat {gd : Mem → Prop} {g : TgE} {body : SemS} {q : Fl} (I : List D → Env → Mem → Prop) (hend : ∀ ρ M, I [] ρ M → gd M ∧ q.nx ρ M)
    (hstep : ∀ d ds ρ M, I (d :: ds) ρ M → gd M ∧ ∃ ρ1, g d ρ = some ρ1 ∧ SatF (body ρ1 M) ⟨I ds, q.rt, q.nx, I ds⟩) : ∀ {ds : List D} {ρ : Env} {M : Mem}, I ds ρ M → SatF (forL gd g body ds ρ M) q
  | [], ρ, M, h => by
    obtain ⟨h1, h2⟩ := hend ρ M h
    simp only [forL, if_pos h1, satF_nx, h2]
  | d :: ds, ρ, M, h => by
    obtain ⟨h1, ρ1, h2, h3⟩ := hstep d ds ρ M h
    simp only [forL, if_pos h1, h2]
    cases e : body ρ1 M with
    | nx ρ2 M2 =>
      rw [e] at h3
      exact forL_sat I hend hstep h3
    | ct ρ2 M2 =>
      rw [e] at h3
      exact forL_sat I hend hstep h3
    | bk ρ2 M2 => rw [e] at h3; exact h3
    | rt d M2 => rw [e] at h3; exact h3
    | exc c x M2 => rw [e] at h3; exact h3
    | bad => rw [e] at h3; exact h3
theorem Sat.nox {α : Type} {r : Res α} {P : α → Mem → Prop} (h : Sat r P) : Sat r.nox P := by
  cases r with
  | ok a M => exact h
  | exc c x M => exact h.elim
  | bad => exact h
theorem compL_sat {gd : Mem → Prop} {g : TgE} {t : SemT} {e : SemE} {ρ0 : Env} (I : List D → List D → Mem → Prop) (hgd : ∀ ds acc M, I ds acc M → gd M)
    (hstep : ∀ d ds acc M, I (d :: ds) acc M → ∃ ρ1, g d ρ0 = some ρ1 ∧ Sat (t ρ1 M) fun b M1 => if b then Sat (e ρ1 M1) fun y M2 => I ds (acc ++ [y]) M2 else I ds acc M1) :
    ∀ {ds acc : List D} {M : Mem}, I ds acc M → Sat (compL gd g t e ρ0 ds M) fun ys M' => I [] (acc ++ ys) M'
  | [], acc, M, h => by
    simp only [compL, if_pos (hgd _ _ _ h), sat_ok, List.append_nil]
    exact h
  | d :: ds, acc, M, h => by
    obtain ⟨ρ1, h2, h3⟩ := hstep d ds acc M h
    simp only [compL, if_pos (hgd _ _ _ h), h2, sat_bind]
    refine Sat.nox (h3.imp fun b M1 h4 => ?_)
    cases b with
    | true =>
      simp only [if_true] at h4 ⊢
      rw [sat_bind]
      refine Sat.nox (h4.imp fun y M2 h5 => ?_)
      rw [sat_bind]
      refine (compL_sat I hgd hstep h5).imp fun ys M' h6 => ?_
      simp only [sat_ok]
      rw [List.append_assoc] at h6
      exact h6
    | false =>
      exact compL_sat I hgd hstep h4
/-! ### a comprehension without effects -/
theorem compL_map {gd : Mem → Prop} {g : TgE} {e : SemE} {ρ0 : Env} {M : Mem} {F : D → D} (hgd : gd M) : ∀ {ds : List D}, (∀ d ∈ ds, ∃ ρ1, g d ρ0 = some ρ1 ∧ e ρ1 M = .ok (F d) M) → compL gd g cYes e ρ0 ds M = .ok (ds.map F) M
  | [], _ => by simp [compL, hgd]
  | d :: ds, h => by
    obtain ⟨ρ1, h1, h2⟩ := h d List.mem_cons_self
    simp only [compL, if_pos hgd, h1, cYes_at, Res.nox, Res.bind_ok, if_true, h2, compL_map hgd fun x hx => h x (List.mem_cons_of_mem _ hx), List.map_cons]
theorem compL_filter {gd : Mem → Prop} {g : TgE} {t : SemT} {e : SemE} {ρ0 : Env} {M : Mem} {p : D → Bool} {F : D → D} (hgd : gd M) : ∀ {ds : List D}, (∀ d ∈ ds, ∃ ρ1, g d ρ0 = some ρ1 ∧ t ρ1 M = .ok (p d) M ∧ (p d = true → e ρ1 M = .ok (F d) M)) → compL gd g t e ρ0 ds M = .ok ((ds.filter p).map F) M
  | [], _ => by simp [compL, hgd]
  | d :: ds, h => by
    obtain ⟨ρ1, h1, h2, h3⟩ := h d List.mem_cons_self
    have ih := compL_filter (F := F) (e := e) hgd fun x hx => h x (List.mem_cons_of_mem _ hx)
    simp only [compL, if_pos hgd, h1, h2, Res.nox, Res.bind_ok]
    cases hp : p d with
    | true => simp only [if_true, h3 hp, Res.bind_ok, ih, List.filter_cons, hp, List.map_cons]
    | false => simp [ih, List.filter_cons, hp]
/-! ### calls -/
def D.dry (d : D) : Bool := d.lt 0
mutual
theorem lt_mono {n m : Nat} (h : n ≤ m) : ∀ {d : D}, d.lt n = true → d.lt m = true
  | .non, _ => rfl
  | .bl _, _ => rfl
  | .int _, _ => rfl
  | .str _, _ => rfl
  | .tup ds, l => by simp only [D.lt] at l ⊢; exact ltL_mono h l
  | .lst ds, l => by simp only [D.lt] at l ⊢; exact ltL_mono h l
  | .dic _ ds, l => by simp only [D.lt] at l ⊢; exact ltL_mono h l
  | .ref i, l => by simp only [D.lt, decide_eq_true_eq] at l ⊢; omega
theorem ltL_mono {n m : Nat} (h : n ≤ m) : ∀ {ds : List D}, D.ltL n ds = true → D.ltL m ds = true
  | [], _ => rfl
  | d :: ds, l => by
    simp only [D.ltL, Bool.and_eq_true] at l ⊢
    exact ⟨lt_mono h l.1, ltL_mono h l.2⟩
end
theorem dry_lt {d : D} (h : d.dry = true) (n : Nat) : d.lt n = true := lt_mono (Nat.zero_le n) h
theorem dry_icy {n : Nat} {M : Mem} {d : D} (h : d.dry = true) : icy n M d = d := by
  cases d with
  | ref i => simp [D.dry, D.lt] at h
  | _ => rfl
/-- the callers' objects know only theirs -/
def Wf (n : Nat) (M : Mem) : Prop := (M.take n).all (O.lt n) = true
/-- how a def hands back: plain data; a list of its own, which is told as it is then; or something of the store -/
def Back (n : Nat) (P : D → Mem → Prop) (d : D) (M' : Mem) : Prop := Wf n M' ∧
  ((d.dry = true ∧ P d (M'.take n)) ∨ ∃ i ds, d = .ref i ∧ n ≤ i ∧ M'[i]? = some (.lst ds) ∧ D.ltL n ds = true ∧ P (.lst ds) (M'.take n))
theorem back_gc {n : Nat} {P : D → Mem → Prop} {d : D} {M' : Mem} (h : Back n P d M') : Sat (gc n (.ok d M')) P := by
  obtain ⟨hw, h⟩ := h
  rcases h with ⟨h1, h2⟩ | ⟨i, ds, rfl, h1, h2, h3, h4⟩
  · have e := dry_icy (n := n) (M := M') h1
    simp only [gc, e, dry_lt h1 n, Bool.true_and]
    rw [if_pos (show (M'.take n).all (O.lt n) = true from hw)]
    exact h2
  · have e : icy n M' (.ref i) = .lst ds := by simp only [icy, if_pos h1, h2]
    simp only [gc, e]
    rw [if_pos (by rw [Bool.and_eq_true]; exact ⟨by simp only [D.lt]; exact h3, hw⟩)]
    exact h4
theorem runF_sat {n N : Nat} {body : SemS} {ds : List D} {M : Mem} {P : D → Mem → Prop} (hl : ds.length = n) (h : SatF (body (startD N ds) M) ⟨fun _ M' => Back M.length P .non M', Back M.length P, fun _ _ => False, fun _ _ => False⟩) : Sat (runF n N body ds M) P := by
  simp only [runF, if_pos hl]
  cases e : body (startD N ds) M with
  | nx ρ M' => rw [e] at h; exact back_gc h
  | rt d M' => rw [e] at h; exact back_gc h
  | bk ρ M' => rw [e] at h; exact h.elim
  | ct ρ M' => rw [e] at h; exact h.elim
  | exc c x M' => rw [e] at h; exact h.elim
  | bad => rw [e] at h; exact h.elim
/-- a def that leaves the store alone and hands back plain data: an equation -/
theorem gc_same {M : Mem} {d : D} (hd : d.dry = true) : gc M.length (.ok d M) = .ok d M := by
  have e := dry_icy (n := M.length) (M := M) hd
  simp only [gc, e, List.take_length]
  split <;> rfl
theorem runF_eq {n N : Nat} {body : SemS} {ds : List D} {M : Mem} {d : D} (hl : ds.length = n) (hd : d.dry = true) (h : body (startD N ds) M = .rt d M) : runF n N body ds M = .ok d M := by
  simp only [runF, if_pos hl, h, fin]
  exact gc_same hd
theorem runF_eqN {n N : Nat} {body : SemS} {ds : List D} {M : Mem} {ρ : Env} (hl : ds.length = n) (h : body (startD N ds) M = .nx ρ M) : runF n N body ds M = .ok .non M := by
  simp only [runF, if_pos hl, h, fin]
  exact gc_same rfl
@[simp] theorem then_rt {d : D} {M : Mem} {g : Env → Mem → Flow} : (Flow.rt d M).then g = .rt d M := rfl
@[simp] theorem then_nx {ρ : Env} {M : Mem} {g : Env → Mem → Flow} : (Flow.nx ρ M).then g = g ρ M := rfl
@[simp] theorem then_bk {ρ : Env} {M : Mem} {g : Env → Mem → Flow} : (Flow.bk ρ M).then g = .bk ρ M := rfl
@[simp] theorem then_ct {ρ : Env} {M : Mem} {g : Env → Mem → Flow} : (Flow.ct ρ M).then g = .ct ρ M := rfl
@[simp] theorem flow_ok {α : Type} {a : α} {M : Mem} {g : α → Mem → Flow} : (Res.ok a M).flow g = g a M := rfl
theorem startD_eq (N : Nat) (ds : List D) : startD N ds = ds.map some ++ List.replicate (N - ds.length) none := rfl
end G
set_option maxHeartbeats 2000000
namespace G
open PySem PySem.Spec PyProof.Rows L2
/-! ### operations on plain data -/
section
variable {M : Mem} {i j : Int} {x y : Str} {ds es : List D} {d e : D}
@[simp] theorem eqD_int : eqD (.int i) (.int j) M = .ok (.bl (decide (i = j))) M := rfl
@[simp] theorem eqD_str : eqD (.str x) (.str y) M = .ok (.bl (decide (x = y))) M := rfl
@[simp] theorem eqD_bl {a b : Bool} : eqD (.bl a) (.bl b) M = .ok (.bl (decide (a = b))) M := rfl
@[simp] theorem neD_int : neD (.int i) (.int j) M = .ok (.bl (!decide (i = j))) M := rfl
@[simp] theorem neD_str : neD (.str x) (.str y) M = .ok (.bl (!decide (x = y))) M := rfl
@[simp] theorem eqD_tup0 : eqD (.tup ds) (.tup []) M = .ok (.bl ds.isEmpty) M := rfl
@[simp] theorem cmpD_int {f : Int → Int → Bool} : cmpD f (.int i) (.int j) M = .ok (.bl (f i j)) M := rfl
@[simp] theorem addD_int : addD (.int i) (.int j) M = .ok (.int (i + j)) M := rfl
@[simp] theorem subD_int : subD (.int i) (.int j) M = .ok (.int (i - j)) M := rfl
theorem mulD_int (h : -(2 ^ 64) < i ∧ i < 2 ^ 64 ∨ -(2 ^ 64) < j ∧ j < 2 ^ 64) : mulD (.int i) (.int j) M = .ok (.int (i * j)) M := by simp only [mulD, if_pos h]
theorem fdivD_int (h : 0 < j ∧ j < 1073741824) : fdivD (.int i) (.int j) M = .ok (.int (i / j)) M := by simp only [fdivD, if_pos h]
theorem modD_int (h : 0 < j) : modD (.int i) (.int j) M = .ok (.int (i % j)) M := by simp only [modD, if_pos h]
@[simp] theorem lenD_tup : lenD [.tup ds] M = .ok (.int ds.length) M := rfl
@[simp] theorem lenD_lst : lenD [.lst ds] M = .ok (.int ds.length) M := rfl
theorem lenD_str (h : x.length ≤ 1000000) : lenD [.str x] M = .ok (.int x.length) M := by simp only [lenD, if_pos h]
@[simp] theorem negD_int : negD (.int i) M = .ok (.int (-i)) M := rfl
@[simp] theorem intD_int : intD [.int i] M = .ok (.int i) M := rfl
@[simp] theorem intD_bl {b : Bool} : intD [.bl b] M = .ok (.int (if b then 1 else 0)) M := rfl
@[simp] theorem absD_int : absD [.int i] M = .ok (.int (if i < 0 then -i else i)) M := rfl
@[simp] theorem min2_int : min2D [.int i, .int j] M = .ok (.int (min i j)) M := by
  have e : (if j < i then j else i) = min i j := by rw [Int.min_def]; split <;> split <;> omega
  show Res.ok (D.int (if j < i then j else i)) M = _
  rw [e]
@[simp] theorem max2_int : max2D [.int i, .int j] M = .ok (.int (max i j)) M := by
  have e : (if j > i then j else i) = max i j := by rw [Int.max_def]; split <;> split <;> omega
  show Res.ok (D.int (if j > i then j else i)) M = _
  rw [e]
theorem idx_tup (h : L2.atI ds i = some d) : idxD (.tup ds) (.int i) M = .ok d M := by simp only [idxD, h]
theorem idx_lst (h : L2.atI ds i = some d) : idxD (.lst ds) (.int i) M = .ok d M := by simp only [idxD, lstOf, h]
theorem atI_nat {α : Type} {xs : List α} {n : Nat} {x : α} (h : xs[n]? = some x) : L2.atI xs (n : Int) = some x := L2.atI_nat h
@[simp] theorem idx_tup0 {ds : List D} : idxD (.tup (d :: ds)) (.int 0) M = .ok d M := idx_tup (atI_nat (n := 0) rfl)
@[simp] theorem idx_tup1 {ds : List D} : idxD (.tup (d :: e :: ds)) (.int 1) M = .ok e M := idx_tup (atI_nat (n := 1) rfl)
@[simp] theorem idx_tup2 {ds : List D} {f : D} : idxD (.tup (d :: e :: f :: ds)) (.int 2) M = .ok f M := idx_tup (atI_nat (n := 2) rfl)
@[simp] theorem idx_tup3 {ds : List D} {f g : D} : idxD (.tup (d :: e :: f :: g :: ds)) (.int 3) M = .ok g M := idx_tup (atI_nat (n := 3) rfl)
@[simp] theorem isi_non {T : String} : isiD T .non M = .ok (.bl (subTy "NoneType" T)) M := rfl
@[simp] theorem isi_bl {T : String} {b : Bool} : isiD T (.bl b) M = .ok (.bl (subTy "bool" T)) M := rfl
@[simp] theorem isi_int {T : String} : isiD T (.int i) M = .ok (.bl (subTy "int" T)) M := rfl
@[simp] theorem isi_str {T : String} : isiD T (.str x) M = .ok (.bl (subTy "str" T)) M := rfl
@[simp] theorem isi_tup {T : String} : isiD T (.tup ds) M = .ok (.bl (subTy "tuple" T)) M := rfl
@[simp] theorem isi_lst {T : String} : isiD T (.lst ds) M = .ok (.bl (subTy "list" T)) M := rfl
@[simp] theorem isi_dic {T : String} {ks : List Key} : isiD T (.dic ks ds) M = .ok (.bl (subTy "dict" T)) M := rfl
@[simp] theorem isN_non : isN .non M = .ok (.bl true) M := rfl
@[simp] theorem isN_str : isN (.str x) M = .ok (.bl false) M := rfl
@[simp] theorem isN_tup : isN (.tup ds) M = .ok (.bl false) M := rfl
@[simp] theorem isN_int : isN (.int i) M = .ok (.bl false) M := rfl
@[simp] theorem isN_lst : isN (.lst ds) M = .ok (.bl false) M := rfl
@[simp] theorem notN_non : notN .non M = .ok (.bl false) M := rfl
@[simp] theorem notN_str : notN (.str x) M = .ok (.bl true) M := rfl
@[simp] theorem notN_tup : notN (.tup ds) M = .ok (.bl true) M := rfl
@[simp] theorem notN_int : notN (.int i) M = .ok (.bl true) M := rfl
@[simp] theorem src_tup : srcOf M (.tup ds) = some ⟨ds, fun _ => True⟩ := rfl
@[simp] theorem src_lst : srcOf M (.lst ds) = some ⟨ds, fun _ => True⟩ := rfl
@[simp] theorem src_str : srcOf M (.str x) = some ⟨x.cps.toList.map fun c => .str ⟨#[c]⟩, fun _ => True⟩ := rfl
@[simp] theorem enum_tup : enumS [.tup ds] M = .ok ⟨enumL ds, fun _ => True⟩ M := rfl
@[simp] theorem enum_lst : enumS [.lst ds] M = .ok ⟨enumL ds, fun _ => True⟩ M := rfl
@[simp] theorem all_lst : allD [.lst ds] M = match asBools ds with
  | some bs => .ok (.bl (bs.all id)) M
  | none => .bad := rfl
@[simp] theorem any_lst : anyD [.lst ds] M = match asBools ds with
  | some bs => .ok (.bl (bs.any id)) M
  | none => .bad := rfl
@[simp] theorem sum_lst : sumD [.lst ds] M = match asInts ds with
  | some bs => .ok (.int bs.sum) M
  | none => .bad := rfl
@[simp] theorem asBools_nil : asBools [] = some [] := rfl
@[simp] theorem asBools_cons {b : Bool} : asBools (.bl b :: ds) = (asBools ds).map fun bs => b :: bs := rfl
@[simp] theorem asInts_nil : asInts [] = some [] := rfl
@[simp] theorem asInts_cons : asInts (.int i :: ds) = (asInts ds).map fun is => i :: is := rfl
@[simp] theorem tuple_lst : tupleD [.lst ds] M = .ok (.tup ds) M := rfl
@[simp] theorem tuple_tup : tupleD [.tup ds] M = .ok (.tup ds) M := rfl
@[simp] theorem rev_tup : revD (.tup ds) M = .ok (.tup ds.reverse) M := rfl
@[simp] theorem rev_lst : revD (.lst ds) M = .ok (.lst ds.reverse) M := rfl
theorem dry_tup : (D.tup ds).dry = D.ltL 0 ds := by simp only [D.dry, D.lt]
theorem dry_lst : (D.lst ds).dry = D.ltL 0 ds := by simp only [D.dry, D.lt]
theorem dryL_mem : ∀ {ds : List D}, D.ltL 0 ds = true ↔ ∀ d ∈ ds, d.dry = true
  | [] => by simp [D.ltL]
  | d :: ds => by
    rw [D.ltL, Bool.and_eq_true, dryL_mem (ds := ds)]
    simp [D.dry]
@[simp] theorem dry_ref {n : Nat} : (D.ref n).dry = false := rfl
@[simp] theorem dry_int : (D.int i).dry = true := rfl
@[simp] theorem dry_str : (D.str x).dry = true := rfl
@[simp] theorem dry_bl {b : Bool} : (D.bl b).dry = true := rfl
@[simp] theorem dry_non : D.non.dry = true := rfl
end
end G
set_option maxHeartbeats 2000000
namespace G
open PySem PySem.Spec PyProof.Rows L2
/-! ### plain data small enough to be shown -/
/-- b: lists, else empty dicts; n levels of at most sixteen -/
def fineN (b : Bool) : Nat → D → Bool
  | 0, d => match d with
    | .non => true
    | .bl _ => true
    | .int i => decide (i.natAbs < 10 ^ 40)
    | .str s => decide (s.length ≤ 12) && PyData.strOk s
    | .dic [] [] => !b
    | _ => false
  | n + 1, d => match d with
    | .non => true
    | .bl _ => true
    | .int i => decide (i.natAbs < 10 ^ 40)
    | .str s => decide (s.length ≤ 12) && PyData.strOk s
    | .tup ds => decide (ds.length ≤ 16) && ds.all (fineN b n)
    | .lst ds => b && (decide (ds.length ≤ 16) && ds.all (fineN b n))
    | .dic [] [] => !b
    | _ => false
def wN : Nat → Nat
  | 0 => 124
  | n + 1 => 16 * (wN n + 2) + 4
theorem w_ge : ∀ n, 124 ≤ wN n
  | 0 => Nat.le_refl _
  | n + 1 => by have := w_ge n; simp only [wN]; omega
structure Shows (p : PyData) (w k : Nat) : Prop where
  len : p.shown.length ≤ w
  show_ : p.showable = true
  depth : p.depth ≤ k
theorem strOk_lt {s : Str} (h : PyData.strOk s = true) : ∀ c ∈ s.cps.toList, c < 16 ^ 8 := by
  intro c hc
  unfold PyData.strOk at h
  rw [Array.all_eq_true_iff_forall_mem] at h
  have := h c (by simpa using hc)
  simp only [decide_eq_true_eq] at this
  omega
theorem len_ofString_int {i : Int} (h : i.natAbs < 10 ^ 40) : (PySem.Str.ofString (toString i)).length ≤ 41 := by
  have h1 := int_text_length_le10 (a := i) (k := 40) (by decide) h
  rw [PySem.ofString_length]
  omega
theorem showable_int {i : Int} (h : i.natAbs < 10 ^ 40) : (PyData.int i).showable = true := by
  simp only [PyData.showable, decide_eq_true_eq]
  by_cases h0 : i.natAbs = 0
  · rw [h0]; decide
  · refine (Nat.log2_lt h0).mpr (Nat.lt_of_lt_of_le h ?_)
    exact Nat.le_trans (Nat.pow_le_pow_left (by decide) 40) (Nat.le_trans (Nat.le_of_eq (Nat.pow_mul 2 4 40).symm) (Nat.pow_le_pow_right (by decide) (by decide)))
theorem len_lt {ts : List Str} : (listText ts).length ≤ piled ts + 2 := by
  cases ts with
  | nil => decide
  | cons t r =>
    unfold listText
    rw [strLen_append]
    show (textFrom 1 _ r).length + _ ≤ _
    rw [textFrom_length_pos _ _ _ (by decide), strLen_append, strLen_append, piled_cons]
    have e1 : (("[" : String) : Str).length = 1 := rfl
    have e2 : (("]" : String) : Str).length = 1 := rfl
    have e3 : ((if 0 > 0 then ", " else "" : String) : Str).length = 0 := rfl
    omega
theorem len_tt {ts : List Str} : (tupleText ts).length ≤ piled ts + 3 := by
  unfold tupleText
  rw [strLen_append, strLen_append]
  have e1 : (("(" : String) : Str).length = 1 := rfl
  have e3 : (((if ts.length == 1 then ",)" else ")" : String) : Str)).length ≤ 2 := by split <;> decide
  by_cases h : ts = []
  · subst h
    have e2 : (Str.join ", " ([] : List Str)).length = 0 := rfl
    have e4 : piled ([] : List Str) = 0 := rfl
    omega
  · have := join_length_add ts h
    omega
theorem piled_le {ts : List Str} {w : Nat} : (∀ t ∈ ts, t.length ≤ w) → piled ts ≤ ts.length * (w + 2) := by
  induction ts with
  | nil => intro _; exact Nat.zero_le _
  | cons t r ih =>
    intro h
    rw [piled_cons, List.length_cons, Nat.succ_mul]
    have h1 := h t List.mem_cons_self
    have h2 := ih fun x hx => h x (List.mem_cons_of_mem _ hx)
    omega
theorem shows_scal {p : PyData} {w k : Nat} (hw : 124 ≤ w) (h : (p = .none) ∨ (∃ b, p = .bool b) ∨ (∃ i : Int, p = .int i ∧ i.natAbs < 10 ^ 40) ∨ ∃ s : Str, p = .str s ∧ s.length ≤ 12 ∧ PyData.strOk s = true) : Shows p w k := by
  rcases h with rfl | ⟨b, rfl⟩ | ⟨i, rfl, hi⟩ | ⟨s, rfl, h1, h2⟩
  · exact ⟨by rw [PyData.shown]; exact Nat.le_trans (by decide) hw, rfl, by rw [PyData.depth] <;> first | omega | (intros; contradiction)⟩
  · exact ⟨by rw [PyData.shown]; exact Nat.le_trans (by cases b <;> decide) hw, rfl, by rw [PyData.depth] <;> first | omega | (intros; contradiction)⟩
  · exact ⟨by rw [PyData.shown]; have := len_ofString_int hi; omega, showable_int hi, by rw [PyData.depth] <;> first | omega | (intros; contradiction)⟩
  · exact ⟨by rw [PyData.shown]; have := PySem.StrLaws.reprText_len s (strOk_lt h2); omega, rfl, by rw [PyData.depth] <;> first | omega | (intros; contradiction)⟩
theorem shows_list {ps : List PyData} {w k : Nat} (hl : ps.length ≤ 16) (h : ∀ p ∈ ps, Shows p w k) : Shows (.list ps) (16 * (w + 2) + 4) (k + 1) ∧ Shows (.tuple ps) (16 * (w + 2) + 4) (k + 1) := by
  have h1 : piled (PyData.shownAll ps) ≤ 16 * (w + 2) := by
    have e : ∀ ps : List PyData, PyData.shownAll ps = ps.map PyData.shown := by
      intro ps
      induction ps with
      | nil => simp only [PyData.shownAll, List.map_nil]
      | cons p ps ih => simp only [PyData.shownAll, List.map_cons, ih]
    rw [e]
    refine Nat.le_trans (piled_le (w := w) fun t ht => ?_) (by rw [List.length_map]; exact Nat.mul_le_mul_right _ hl)
    obtain ⟨p, hp, rfl⟩ := List.mem_map.mp ht
    exact (h p hp).len
  have h2 : PyData.showableAll ps = true := by
    have : ∀ ps : List PyData, (∀ p ∈ ps, Shows p w k) → PyData.showableAll ps = true := by
      intro ps
      induction ps with
      | nil => intro _; simp only [PyData.showableAll]
      | cons p ps ih => intro h; simp only [PyData.showableAll, (h p List.mem_cons_self).show_, ih fun x hx => h x (List.mem_cons_of_mem _ hx), Bool.and_self]
    exact this ps h
  have h3 : PyData.depthAll ps ≤ k := by
    have : ∀ ps : List PyData, (∀ p ∈ ps, Shows p w k) → PyData.depthAll ps ≤ k := by
      intro ps
      induction ps with
      | nil => intro _; simp only [PyData.depthAll]; omega
      | cons p ps ih =>
        intro h
        have h1 := (h p List.mem_cons_self).depth
        have h2 := ih fun x hx => h x (List.mem_cons_of_mem _ hx)
        simp only [PyData.depthAll]
        omega
    exact this ps h
  refine ⟨⟨?_, by simpa only [PyData.showable] using h2, by simp only [PyData.depth]; omega⟩, ⟨?_, by simpa only [PyData.showable] using h2, by simp only [PyData.depth]; omega⟩⟩
  · rw [PyData.shown]
    have := len_lt (ts := PyData.shownAll ps)
    omega
  · rw [PyData.shown]
    have := len_tt (ts := PyData.shownAll ps)
    omega
theorem fine_toP : ∀ (n : Nat) {d : D}, fineN true n d = true → ∃ p, d.toP = some p ∧ Shows p (wN n) n ∧ p.canLay0 = true := by
  have scal : ∀ (n : Nat) {d : D}, (d = .non ∨ (∃ b, d = .bl b) ∨ (∃ i : Int, d = .int i ∧ i.natAbs < 10 ^ 40) ∨ ∃ s : Str, d = .str s ∧ s.length ≤ 12 ∧ PyData.strOk s = true) → ∃ p, d.toP = some p ∧ Shows p (wN n) n ∧ p.canLay0 = true := by
    intro n d h
    rcases h with rfl | ⟨b, rfl⟩ | ⟨i, rfl, hi⟩ | ⟨s, rfl, h1, h2⟩
    · exact ⟨_, rfl, shows_scal (w_ge n) (.inl rfl), rfl⟩
    · exact ⟨_, rfl, shows_scal (w_ge n) (.inr (.inl ⟨_, rfl⟩)), rfl⟩
    · exact ⟨_, rfl, shows_scal (w_ge n) (.inr (.inr (.inl ⟨_, rfl, hi⟩))), rfl⟩
    · exact ⟨_, rfl, shows_scal (w_ge n) (.inr (.inr (.inr ⟨_, rfl, h1, h2⟩))), by simpa only [PyData.canLay0] using h2⟩
  intro n
  induction n with
  | zero =>
    intro d h
    refine scal 0 ?_
    cases d with
    | non => exact .inl rfl
    | bl b => exact .inr (.inl ⟨b, rfl⟩)
    | int i => exact .inr (.inr (.inl ⟨i, rfl, of_decide_eq_true h⟩))
    | str s =>
      simp only [fineN, Bool.and_eq_true, decide_eq_true_eq] at h
      exact .inr (.inr (.inr ⟨s, rfl, h.1, h.2⟩))
    | tup ds => simp [fineN] at h
    | lst ds => simp [fineN] at h
    | dic ks ds => cases ks <;> cases ds <;> simp [fineN] at h
    | ref i => simp [fineN] at h
  | succ n ih =>
    intro d h
    have all : ∀ ds : List D, ds.all (fineN true n) = true → ∃ ps, D.toPL ds = some ps ∧ ps.length = ds.length ∧ (∀ p ∈ ps, Shows p (wN n) n) ∧ PyData.canLayAll0 ps = true := by
      intro ds
      induction ds with
      | nil => intro _; exact ⟨[], rfl, rfl, fun p hp => absurd hp (by simp), by simp only [PyData.canLayAll0]⟩
      | cons d ds ihd =>
        intro h
        rw [List.all_cons, Bool.and_eq_true] at h
        obtain ⟨p, e1, e2, e3⟩ := ih h.1
        obtain ⟨ps, f1, f2, f3, f4⟩ := ihd h.2
        refine ⟨p :: ps, by simp only [D.toPL, e1, f1, Option.bind_some, Option.map_some], by simp [f2], fun q hq => ?_, by simp only [PyData.canLayAll0, e3, f4, Bool.and_self]⟩
        rcases List.mem_cons.mp hq with e | hq
        · rw [e]; exact e2
        · exact f3 q hq
    cases d with
    | non => exact scal _ (.inl rfl)
    | bl b => exact scal _ (.inr (.inl ⟨b, rfl⟩))
    | int i => exact scal _ (.inr (.inr (.inl ⟨i, rfl, of_decide_eq_true h⟩)))
    | str s =>
      simp only [fineN, Bool.and_eq_true, decide_eq_true_eq] at h
      exact scal _ (.inr (.inr (.inr ⟨s, rfl, h.1, h.2⟩)))
    | tup ds =>
      simp only [fineN, Bool.and_eq_true, decide_eq_true_eq] at h
      obtain ⟨ps, f1, f2, f3, f4⟩ := all ds h.2
      exact ⟨.tuple ps, by simp only [D.toP, f1, Option.map_some], (shows_list (by rw [f2]; exact h.1) f3).2, by simpa only [PyData.canLay0] using f4⟩
    | lst ds =>
      simp only [fineN, Bool.true_and, Bool.and_eq_true, decide_eq_true_eq] at h
      obtain ⟨ps, f1, f2, f3, f4⟩ := all ds h.2
      exact ⟨.list ps, by simp only [D.toP, f1, Option.map_some], (shows_list (by rw [f2]; exact h.1) f3).1, by simpa only [PyData.canLay0] using f4⟩
    | dic ks ds => cases ks <;> cases ds <;> simp [fineN] at h
    | ref i => simp [fineN] at h
theorem fine_toE : ∀ (n : Nat) {d : D}, fineN false n d = true → ∃ p, d.toE = some p ∧ Shows p (wN n) (n + 1) := by
  have scal : ∀ (n : Nat) {d : D}, (d = .non ∨ (∃ b, d = .bl b) ∨ (∃ i : Int, d = .int i ∧ i.natAbs < 10 ^ 40) ∨ ∃ s : Str, d = .str s ∧ s.length ≤ 12 ∧ PyData.strOk s = true) → ∃ p, d.toE = some p ∧ Shows p (wN n) (n + 1) := by
    intro n d h
    rcases h with rfl | ⟨b, rfl⟩ | ⟨i, rfl, hi⟩ | ⟨s, rfl, h1, h2⟩
    · exact ⟨_, rfl, shows_scal (w_ge n) (.inl rfl)⟩
    · exact ⟨_, rfl, shows_scal (w_ge n) (.inr (.inl ⟨_, rfl⟩))⟩
    · exact ⟨_, rfl, shows_scal (w_ge n) (.inr (.inr (.inl ⟨_, rfl, hi⟩)))⟩
    · exact ⟨_, rfl, shows_scal (w_ge n) (.inr (.inr (.inr ⟨_, rfl, h1, h2⟩)))⟩
  have dict0 : ∀ n, Shows (.dict []) (wN n) (n + 1) := fun n => by
    have h1 := w_ge n
    have h2 : (PyData.shown (.dict [])).length ≤ 2 := by decide
    exact ⟨by omega, by simp [PyData.showable, PyData.showableKv], by simp only [PyData.depth, PyData.depthKv]; omega⟩
  intro n
  induction n with
  | zero =>
    intro d h
    cases d with
    | non => exact scal 0 (.inl rfl)
    | bl b => exact scal 0 (.inr (.inl ⟨b, rfl⟩))
    | int i => exact scal 0 (.inr (.inr (.inl ⟨i, rfl, of_decide_eq_true h⟩)))
    | str s =>
      simp only [fineN, Bool.and_eq_true, decide_eq_true_eq] at h
      exact scal 0 (.inr (.inr (.inr ⟨s, rfl, h.1, h.2⟩)))
    | tup ds => simp [fineN] at h
    | lst ds => simp [fineN] at h
    | dic ks ds =>
      cases ks with
      | nil =>
        cases ds with
        | nil => exact ⟨_, rfl, dict0 0⟩
        | cons _ _ => simp [fineN] at h
      | cons _ _ => simp [fineN] at h
    | ref i => simp [fineN] at h
  | succ n ih =>
    intro d h
    have all : ∀ ds : List D, ds.all (fineN false n) = true → ∃ ps, D.toEL ds = some ps ∧ ps.length = ds.length ∧ (∀ p ∈ ps, Shows p (wN n) (n + 1)) := by
      intro ds
      induction ds with
      | nil => intro _; exact ⟨[], rfl, rfl, fun p hp => absurd hp (by simp)⟩
      | cons d ds ihd =>
        intro h
        rw [List.all_cons, Bool.and_eq_true] at h
        obtain ⟨p, e1, e2⟩ := ih h.1
        obtain ⟨ps, f1, f2, f3⟩ := ihd h.2
        refine ⟨p :: ps, by simp only [D.toEL, e1, f1, Option.bind_some, Option.map_some], by simp [f2], fun q hq => ?_⟩
        rcases List.mem_cons.mp hq with e | hq
        · rw [e]; exact e2
        · exact f3 q hq
    cases d with
    | non => exact scal _ (.inl rfl)
    | bl b => exact scal _ (.inr (.inl ⟨b, rfl⟩))
    | int i => exact scal _ (.inr (.inr (.inl ⟨i, rfl, of_decide_eq_true h⟩)))
    | str s =>
      simp only [fineN, Bool.and_eq_true, decide_eq_true_eq] at h
      exact scal _ (.inr (.inr (.inr ⟨s, rfl, h.1, h.2⟩)))
    | tup ds =>
      simp only [fineN, Bool.and_eq_true, decide_eq_true_eq] at h
      obtain ⟨ps, f1, f2, f3⟩ := all ds h.2
      exact ⟨.tuple ps, by simp only [D.toE, f1, Option.map_some], (shows_list (by rw [f2]; exact h.1) f3).2⟩
    | lst ds => simp [fineN] at h
    | dic ks ds =>
      cases ks with
      | nil =>
        cases ds with
        | nil => exact ⟨_, rfl, dict0 _⟩
        | cons _ _ => simp [fineN] at h
      | cons _ _ => simp [fineN] at h
    | ref i => simp [fineN] at h
theorem fine_dry : ∀ (b : Bool) (n : Nat) {d : D}, fineN b n d = true → d.dry = true := by
  intro b n
  induction n with
  | zero =>
    intro d h
    cases d with
    | dic ks ds => cases ks <;> cases ds <;> first | rfl | simp [fineN] at h
    | tup ds => simp [fineN] at h
    | lst ds => simp [fineN] at h
    | ref i => simp [fineN] at h
    | _ => rfl
  | succ n ih =>
    intro d h
    cases d with
    | dic ks ds => cases ks <;> cases ds <;> first | rfl | simp [fineN] at h
    | tup ds =>
      simp only [fineN, Bool.and_eq_true, decide_eq_true_eq] at h
      rw [dry_tup]
      exact dryL_mem.mpr fun d hd => ih (List.all_eq_true.mp h.2 d hd)
    | lst ds =>
      simp only [fineN, Bool.and_eq_true, decide_eq_true_eq] at h
      rw [dry_lst]
      exact dryL_mem.mpr fun d hd => ih (List.all_eq_true.mp h.2.2 d hd)
    | ref i => simp [fineN] at h
    | _ => rfl
/-- what can be shown -/
def Fine (d : D) : Prop := ∃ b, fineN b 4 d = true
theorem toPM_dry {M : Mem} {d : D} (h : d.dry = true) : toPM M d = d.toP := by
  cases d with
  | ref i => simp at h
  | _ => rfl
theorem repr_fine {d : D} (h : Fine d) : ∃ s : Str, ∀ M, reprD [d] M = .ok (.str s) M := by
  obtain ⟨b, h⟩ := h
  have key : ∀ {p : PyData} {k : Nat}, k ≤ 60 → Shows p (wN 4) k → p.showable = true ∧ p.depth ≤ 60 ∧ p.shown.length ≤ sizeLine := by
    intro p k hk hp
    refine ⟨hp.show_, Nat.le_trans hp.depth hk, Nat.le_trans hp.len ?_⟩
    rw [sizeLine_eq]
    decide
  cases b with
  | true =>
    obtain ⟨p, h1, h2, _⟩ := fine_toP 4 h
    refine ⟨p.shown, fun M => ?_⟩
    simp only [reprD, shownD, toPM_dry (M := M) (fine_dry _ _ h), h1, if_pos (key (by decide) h2)]
  | false =>
    obtain ⟨p, h1, h2⟩ := fine_toE 4 h
    by_cases hp : ∃ q, d.toP = some q
    · obtain ⟨q, hq⟩ := hp
      have e : fineN true 4 d = true := by
        have key : ∀ (n : Nat) {d : D} {q : PyData}, fineN false n d = true → d.toP = some q → fineN true n d = true := by
          intro n
          induction n with
          | zero =>
            intro d q h hq
            cases d with
            | dic ks ds => simp [D.toP] at hq
            | _ => exact h
          | succ n ih =>
            intro d q h hq
            cases d with
            | dic ks ds => simp [D.toP] at hq
            | tup ds =>
              simp only [fineN, Bool.and_eq_true, decide_eq_true_eq] at h ⊢
              refine ⟨h.1, ?_⟩
              simp only [D.toP, Option.map_eq_some_iff] at hq
              obtain ⟨qs, hq, _⟩ := hq
              have : ∀ {ds : List D} {qs : List PyData}, ds.all (fineN false n) = true → D.toPL ds = some qs → ds.all (fineN true n) = true := by
                intro ds
                induction ds with
                | nil => intro _ _ _; rfl
                | cons d ds ihd =>
                  intro qs h hq
                  simp only [D.toPL, Option.bind_eq_some_iff, Option.map_eq_some_iff] at hq
                  obtain ⟨p, h1, r, h2, _⟩ := hq
                  rw [List.all_cons, Bool.and_eq_true] at h ⊢
                  exact ⟨ih h.1 h1, ihd h.2 h2⟩
              exact this h.2 hq
            | lst ds => simp [fineN] at h
            | _ => exact h
        exact key 4 h hq
      obtain ⟨p, h1, h2, _⟩ := fine_toP 4 e
      refine ⟨p.shown, fun M => ?_⟩
      simp only [reprD, shownD, toPM_dry (M := M) (fine_dry _ _ h), h1, if_pos (key (by decide) h2)]
    · have hn : d.toP = none := by
        cases e : d.toP with
        | none => rfl
        | some q => exact absurd ⟨q, e⟩ hp
      refine ⟨p.shown, fun M => ?_⟩
      simp only [reprD, shownD, toPM_dry (M := M) (fine_dry _ _ h), hn, h1, if_pos (key (by decide) h2)]
end G
set_option maxHeartbeats 2000000
namespace G
open PySem PySem.Spec PyProof.Rows L2
/-- a loop that looks at its items and leaves the store alone: the first answer -/
theorem forL_check {gd : Mem → Prop} {g : TgE} {body : SemS} {M : Mem} (E : Env → Prop) (F : D → Option D) (hgd : gd M) : ∀ {ds : List D} {ρ : Env}, E ρ →
    (∀ d ∈ ds, ∀ ρ, E ρ → ∃ ρ1, g d ρ = some ρ1 ∧ ((F d = none ∧ ∃ ρ2, body ρ1 M = .nx ρ2 M ∧ E ρ2) ∨ ∃ r, F d = some r ∧ body ρ1 M = .rt r M)) →
    (∃ r, ds.findSome? F = some r ∧ forL gd g body ds ρ M = .rt r M) ∨ (ds.findSome? F = none ∧ ∃ ρ', forL gd g body ds ρ M = .nx ρ' M ∧ E ρ')
  | [], ρ, hE, _ => .inr ⟨rfl, ρ, by simp only [forL, if_pos hgd], hE⟩
  | d :: ds, ρ, hE, h => by
    obtain ⟨ρ1, h1, h2⟩ := h d List.mem_cons_self ρ hE
    rcases h2 with ⟨hF, ρ2, hb, hE2⟩ | ⟨r, hF, hb⟩
    · simp only [forL, if_pos hgd, h1, hb, List.findSome?_cons, hF]
      exact forL_check E F hgd hE2 fun x hx => h x (List.mem_cons_of_mem _ hx)
    · refine .inl ⟨r, by rw [List.findSome?_cons, hF], by simp only [forL, if_pos hgd, h1, hb]⟩
theorem enumL_mem {ds : List D} {d : D} (h : d ∈ enumL ds) : ∃ (i : Nat) (x : D), ds[i]? = some x ∧ d = .tup [.int i, x] := by
  obtain ⟨i, hi, e⟩ := List.mem_iff_getElem.mp h
  have h2 : (enumL ds)[i]? = some d := by rw [List.getElem?_eq_getElem hi, e]
  obtain ⟨x, h3, h4⟩ := enumL_get h2
  exact ⟨i, x, h3, h4⟩
theorem enumL_at {ds : List D} {i : Nat} {x : D} (h : ds[i]? = some x) : (enumL ds)[i]? = some (.tup [.int i, x]) := by
  unfold enumL
  rw [List.getElem?_zipWith, List.getElem?_range (List.getElem?_eq_some_iff.mp h).1, h]
/-- none of the items of an enumeration has an answer -/
theorem enum_none {ds : List D} {F : D → Option D} {p : Nat → D → Bool} (h : ∀ (i : Nat) (x : D), ds[i]? = some x → (F (.tup [.int i, x]) = none ↔ p i x = true)) : (enumL ds).findSome? F = none ↔ ∀ (i : Nat) (x : D), ds[i]? = some x → p i x = true := by
  rw [List.findSome?_eq_none_iff]
  constructor
  · intro h2 i x hx
    exact (h i x hx).mp (h2 _ (List.mem_of_getElem? (enumL_at hx)))
  · intro h2 d hd
    obtain ⟨i, x, hx, rfl⟩ := enumL_mem hd
    exact (h i x hx).mpr (h2 i x hx)
theorem range_mem {lo hi : Int} {d : D} (h : d ∈ rangeL lo hi) : ∃ i : Nat, i < (hi - lo).toNat ∧ d = .int (lo + i) := by
  unfold rangeL at h
  obtain ⟨i, hi, rfl⟩ := List.mem_map.mp h
  exact ⟨i, List.mem_range.mp hi, rfl⟩
theorem range_none {lo hi : Int} {F : D → Option D} {p : Nat → Bool} (h : ∀ i : Nat, i < (hi - lo).toNat → (F (.int (lo + i)) = none ↔ p i = true)) : (rangeL lo hi).findSome? F = none ↔ ∀ i : Nat, i < (hi - lo).toNat → p i = true := by
  rw [List.findSome?_eq_none_iff]
  constructor
  · intro h2 i hi
    exact (h i hi).mp (h2 _ (List.mem_map.mpr ⟨i, List.mem_range.mpr hi, rfl⟩))
  · intro h2 d hd
    obtain ⟨i, hi, rfl⟩ := range_mem hd
    exact (h i hi).mpr (h2 i hi)
theorem rng1_int {j : Int} {M : Mem} (h : -(2 ^ 62) ≤ j ∧ j < 2 ^ 62) : rng1 [.int j] M = .ok ⟨rangeL 0 j, fun _ => True⟩ M := by simp only [rng1, if_pos h]
theorem rng2_int {i j : Int} {M : Mem} (h : -(2 ^ 62) ≤ i ∧ i < 2 ^ 62 ∧ -(2 ^ 62) ≤ j ∧ j < 2 ^ 62) : rng2 [.int i, .int j] M = .ok ⟨rangeL i j, fun _ => True⟩ M := by simp only [rng2, if_pos h]
end G
set_option maxHeartbeats 2000000
namespace G
open PySem PySem.Spec PyProof.Rows L2
/-- while, by a measure -/
theorem while_sat {t : SemT} {b : SemS} {q : Fl} (I : Env → Mem → Prop) (m : Env → Mem → Nat) (h : ∀ ρ M, I ρ M → Sat (t ρ M) fun c M1 => if c then SatF (b ρ M1) ⟨fun ρ' M' => I ρ' M' ∧ m ρ' M' < m ρ M, q.rt, q.nx, fun ρ' M' => I ρ' M' ∧ m ρ' M' < m ρ M⟩ else q.nx ρ M1) :
    ∀ {ρ : Env} {M : Mem}, I ρ M → SatF (cWhile t b ρ M) q := by
  have key : ∀ (n : Nat) (ρ : Env) (M : Mem), m ρ M < n → I ρ M → SatF (whileN t b n ρ M) q := by
    intro n
    induction n with
    | zero => intro ρ M hn; omega
    | succ n ih =>
      intro ρ M hn hI
      obtain ⟨c, M1, e, h1⟩ := (h ρ M hI).eq
      simp only [whileN, e, flow_ok]
      cases c with
      | false => simpa using h1
      | true =>
        simp only [if_true] at h1 ⊢
        cases hb : b ρ M1 with
        | nx ρ2 M2 => rw [hb] at h1; exact ih ρ2 M2 (by have := h1.2; omega) h1.1
        | ct ρ2 M2 => rw [hb] at h1; exact ih ρ2 M2 (by have := h1.2; omega) h1.1
        | bk ρ2 M2 => rw [hb] at h1; exact h1
        | rt d M2 => rw [hb] at h1; exact h1
        | exc c x M2 => rw [hb] at h1; exact h1
        | bad => rw [hb] at h1; exact h1
  intro ρ M hI
  have h1 := key (m ρ M + 1) ρ M (by omega) hI
  have h2 : whileN t b (m ρ M + 1) ρ M ≠ .bad := fun e => by rw [e] at h1; exact h1
  rw [cWhile_of h2]
  exact h1
@[simp] theorem cSortDict_at {f : SemE} {ρ : Env} {M : Mem} : cSortDict f ρ M = (f ρ M).bind fun d M1 => match lstOf M1 d with
  | some ds => match pairKeys ds with
    | some ks => if ds.length ≤ 1000000 then .ok ((sortRows (firstsL ks)).map rowD) M1 else .bad
    | none => .bad
  | none => .bad := rfl
@[simp] theorem cCatN_at {fa fb : SemE} {ρ : Env} {M : Mem} : cCatN fa fb ρ M = (fa ρ M).bind fun a M1 => (fb ρ M1).bind fun b M2 => match lstOf M2 a, lstOf M2 b with
  | some xs, some ys => if xs.length + ys.length ≤ 1000000 then .ok (xs ++ ys) M2 else .bad
  | _, _ => .bad := rfl
theorem back_junk {n : Nat} {P : D → Mem → Prop} {d : D} {M J : Mem} (hn : M.length = n) (hw : M.all (O.lt n) = true) (hd : d.dry = true) (h : P d M) : Back n P d (M ++ J) := by
  subst hn
  have e : (M ++ J).take M.length = M := by simp
  exact ⟨by unfold Wf; rw [e]; exact hw, .inl ⟨hd, by rw [e]; exact h⟩⟩
theorem firsts_sub {β : Type} [DecidableEq β] : ∀ (ks acc : List β) (x : β), x ∈ ks.foldl addL acc → x ∈ acc ∨ x ∈ ks
  | [], acc, x, h => .inl h
  | k :: ks, acc, x, h => by
    rcases firsts_sub ks _ x h with h | h
    · unfold addL at h
      split at h
      · exact .inl h
      · rcases List.mem_append.mp h with h | h
        · exact .inl h
        · rw [List.mem_singleton.mp h]; exact .inr List.mem_cons_self
    · exact .inr (List.mem_cons_of_mem _ h)
theorem firsts_len {β : Type} [DecidableEq β] : ∀ (ks acc : List β), (ks.foldl addL acc).length ≤ acc.length + ks.length
  | [], acc => by simp
  | k :: ks, acc => by
    have h1 := firsts_len ks (addL acc k)
    have h2 : (addL acc k).length ≤ acc.length + 1 := by unfold addL; split <;> simp
    rw [List.foldl_cons, List.length_cons]
    omega
theorem sortRows_mem {ks : List (List Int)} {k : List Int} (h : k ∈ sortRows (firstsL ks)) : k ∈ ks := by
  unfold sortRows at h
  exact (firsts_sub ks [] k (List.mem_mergeSort.mp h)).resolve_left (by simp)
theorem sortRows_len (ks : List (List Int)) : (sortRows (firstsL ks)).length ≤ ks.length := by
  unfold sortRows
  rw [List.length_mergeSort]
  have := firsts_len ks []
  unfold firstsL
  simpa using this
/-- an object within the store -/
theorem at_mid {M J : Mem} {o : O} : (M ++ o :: J)[M.length]? = some o := by simp
theorem set_mid {M J : Mem} {o o' : O} : (M ++ o :: J).set M.length o' = M ++ o' :: J := by simp
end G
set_option maxHeartbeats 4000000
namespace K92
open PySem PySem.Spec PyProof.Rows L2 G
def topS (i : Nat) : Stmt := PySem.Challenge.pw_gridloops_k92_what_edits_are.main.body.getD i (.Pass ⟨0, 0, 0, 0⟩)
def t_SORTS : List (Str × D) := [((PySem.Str.ofString "put"), .tup [.str (PySem.Str.ofString "name"), .str (PySem.Str.ofString "polygon")]), ((PySem.Str.ofString "drop"), .tup [.str (PySem.Str.ofString "name")]), ((PySem.Str.ofString "call"), .tup [.str (PySem.Str.ofString "name"), .str (PySem.Str.ofString "name")]), ((PySem.Str.ofString "move"), .tup [.str (PySem.Str.ofString "name"), .str (PySem.Str.ofString "frame")]), ((PySem.Str.ofString "more"), .tup [.str (PySem.Str.ofString "name"), .str (PySem.Str.ofString "point")]), ((PySem.Str.ofString "less"), .tup [.str (PySem.Str.ofString "name"), .str (PySem.Str.ofString "corner")]), ((PySem.Str.ofString "sum"), .tup [.str (PySem.Str.ofString "name"), .str (PySem.Str.ofString "name")]), ((PySem.Str.ofString "times"), .tup [.str (PySem.Str.ofString "name"), .str (PySem.Str.ofString "scale")])]
abbrev s__law_next : Stmt := topS 26
def N__law_next : List Str := ["deck", "many", "own", "number"]
def P__law_next : List Str := ["deck", "many"]
theorem sc__law_next : FnScope N__law_next P__law_next (defScope s__law_next) := ⟨rfl, rfl, rfl, by decide +kernel, rfl, by decide +kernel, by decide +kernel⟩
noncomputable def b__law_next_ : SemS := cSeq (cIfS (cT (c2 ltD (cVar 1) (cC (.int 2)))) (cSeq (cRet (cC (.int 0))) (cEnd)) (cEnd)) (cSeq (cIfS (cT (c2 neD (c2 dgetD (cVar 0) (cC (.str (PySem.Str.ofString "great")))) (cL (cLst (cNil))))) (cSeq (cAsg (cM0 popD (c2 dgetD (cVar 0) (cC (.str (PySem.Str.ofString "great"))))) (tgName 2)) (cSeq (cIfS (cT (c2 geD (cVar 2) (cVar 1))) (cSeq (cDo (cM1 appD (c2 dgetD (cVar 0) (cC (.str (PySem.Str.ofString "great")))) (c2 fdivD (cVar 2) (cVar 1)))) (cEnd)) (cEnd)) (cSeq (cRet (c2 modD (cCall intD (cCons (cVar 2) (cNil))) (cVar 1))) (cEnd)))) (cEnd)) (cSeq (cDPut (cVar 0) (cC (.str (PySem.Str.ofString "turn"))) (c2 addD (c2 dgetD (cVar 0) (cC (.str (PySem.Str.ofString "turn")))) (cC (.int 1)))) (cSeq (cAsg (c2 modD (cCall intD (cCons (c2 addD (c2 dgetD (cVar 0) (cC (.str (PySem.Str.ofString "mixed")))) (c2 mulD (c2 dgetD (cVar 0) (cC (.str (PySem.Str.ofString "turn")))) (cC (.int 2654435761)))) (cNil))) (cC (.int 4294967279))) (tgName 3)) (cSeq (cAsg (c2 modD (cCall intD (cCons (c2 addD (c2 addD (c2 mulD (cVar 3) (cVar 3)) (c2 mulD (c2 dgetD (cVar 0) (cC (.str (PySem.Str.ofString "turn")))) (cC (.int 40503)))) (cC (.int 9))) (cNil))) (cC (.int 4294967231))) (tgName 3)) (cSeq (cAsg (c2 modD (cCall intD (cCons (c2 addD (c2 mulD (cVar 3) (cVar 3)) (c2 dgetD (cVar 0) (cC (.str (PySem.Str.ofString "mixed"))))) (cNil))) (cC (.int 4294967197))) (tgName 3)) (cSeq (cRet (c2 modD (cCall intD (cCons (c2 fdivD (cVar 3) (cC (.int 128))) (cNil))) (cVar 1))) (cEnd)))))))
noncomputable def m__law_next : List D → Mem → Res D := runF 2 4 b__law_next_
abbrev s__law_pick : Stmt := topS 27
def N__law_pick : List Str := ["deck", "some"]
def P__law_pick : List Str := ["deck", "some"]
theorem sc__law_pick : FnScope N__law_pick P__law_pick (defScope s__law_pick) := ⟨rfl, rfl, rfl, by decide +kernel, rfl, by decide +kernel, by decide +kernel⟩
noncomputable def b__law_pick_ : SemS := cSeq (cRet (c2 idxD (cVar 1) (cCall m__law_next (cCons (cVar 0) (cCons (cCall lenD (cCons (cVar 1) (cNil))) (cNil)))))) (cEnd)
noncomputable def m__law_pick : List D → Mem → Res D := runF 2 2 b__law_pick_
abbrev s__law_bounds : Stmt := topS 46
def N__law_bounds : List Str := ["deck", "name", "far", "some"]
def P__law_bounds : List Str := ["deck"]
theorem sc__law_bounds : FnScope N__law_bounds P__law_bounds (defScope s__law_bounds) := ⟨rfl, rfl, rfl, by decide +kernel, rfl, by decide +kernel, by decide +kernel⟩
noncomputable def b__law_bounds_ : SemS := cSeq (cAsg (cSl (cC (.str (PySem.Str.ofString "abcdefgh"))) (cNoP) (cPart (c2 addD (cC (.int 1)) (cCall m__law_next (cCons (cVar 0) (cCons (cC (.int 8)) (cNil))))))) (tgName 1)) (cSeq (cAsg (cCall m__law_pick (cCons (cVar 0) (cCons (cL (cLst (cCons (cC (.int 1000000)) (cCons (cC (.int 1000001)) (cCons (c1 negD (cC (.int 1000000))) (cCons (c1 negD (cC (.int 1000001))) (cNil))))))) (cNil)))) (tgName 2)) (cSeq (cAsg (cL (cLst (cCons (cTup (cCons (cC (.str (PySem.Str.ofString "less"))) (cCons (cVar 1) (cCons (cC (.int 11)) (cNil))))) (cCons (cTup (cCons (cC (.str (PySem.Str.ofString "less"))) (cCons (cVar 1) (cCons (cC (.int 12)) (cNil))))) (cCons (cTup (cCons (cC (.str (PySem.Str.ofString "less"))) (cCons (cVar 1) (cCons (c1 negD (cC (.int 1))) (cNil))))) (cCons (cTup (cCons (cC (.str (PySem.Str.ofString "times"))) (cCons (cVar 1) (cCons (cC (.int 100)) (cNil))))) (cCons (cTup (cCons (cC (.str (PySem.Str.ofString "times"))) (cCons (cVar 1) (cCons (cC (.int 101)) (cNil))))) (cNil)))))))) (tgName 3)) (cSeq (cAsg (cL (cCatN (cVar 3) (cL (cLst (cCons (cTup (cCons (cC (.str (PySem.Str.ofString "times"))) (cCons (cVar 1) (cCons (cC (.int 0)) (cNil))))) (cCons (cTup (cCons (cC (.str (PySem.Str.ofString "times"))) (cCons (cVar 1) (cCons (cC (.bl true)) (cNil))))) (cCons (cTup (cCons (cC (.str (PySem.Str.ofString "drop"))) (cCons (c2 addD (cVar 1) (cC (.str (PySem.Str.ofString "i")))) (cNil)))) (cCons (cTup (cCons (cC (.str (PySem.Str.ofString "drop"))) (cCons (cC (.str (PySem.Str.ofString "abcdefghi"))) (cNil)))) (cNil))))))))) (tgName 3)) (cSeq (cAsg (cL (cCatN (cVar 3) (cL (cLst (cCons (cTup (cCons (cC (.str (PySem.Str.ofString "drop"))) (cCons (cC (.str (PySem.Str.ofString ""))) (cNil)))) (cNil)))))) (tgName 3)) (cSeq (cAsg (cL (cCatN (cVar 3) (cL (cLst (cCons (cTup (cCons (cC (.str (PySem.Str.ofString "more"))) (cCons (cVar 1) (cCons (cTup (cCons (cVar 2) (cCons (cC (.int 0)) (cNil)))) (cNil))))) (cCons (cTup (cCons (cC (.str (PySem.Str.ofString "more"))) (cCons (cVar 1) (cCons (cTup (cCons (cC (.int 0)) (cCons (cVar 2) (cNil)))) (cNil))))) (cCons (cTup (cCons (cC (.str (PySem.Str.ofString "move"))) (cCons (cVar 1) (cCons (cTup (cCons (cC (.int 1)) (cCons (cVar 2) (cCons (cC (.int 0)) (cCons (cC (.int 1)) (cCons (cC (.int 0)) (cCons (cC (.int 0)) (cNil)))))))) (cNil))))) (cNil)))))))) (tgName 3)) (cSeq (cAsg (cL (cCatN (cVar 3) (cL (cLst (cCons (cTup (cCons (cC (.str (PySem.Str.ofString "move"))) (cCons (cVar 1) (cCons (cTup (cCons (cC (.int 1)) (cCons (cC (.int 0)) (cCons (cC (.int 0)) (cCons (cC (.int 1)) (cCons (cC (.int 0)) (cCons (cVar 2) (cNil)))))))) (cNil))))) (cCons (cTup (cCons (cC (.str (PySem.Str.ofString "put"))) (cCons (cVar 1) (cCons (cTup (cCons (cTup (cCons (cC (.int 0)) (cCons (cC (.int 0)) (cNil)))) (cCons (cTup (cCons (cVar 2) (cCons (cC (.int 0)) (cNil)))) (cCons (cTup (cCons (cC (.int 0)) (cCons (cC (.int 1)) (cNil)))) (cNil))))) (cNil))))) (cNil))))))) (tgName 3)) (cSeq (cAsg (cL (cCatN (cVar 3) (cL (cLst (cCons (cTup (cCons (cC (.str (PySem.Str.ofString "call"))) (cCons (cVar 1) (cCons (cVar 1) (cNil))))) (cCons (cTup (cCons (cC (.str (PySem.Str.ofString "sum"))) (cCons (cVar 1) (cCons (cVar 1) (cNil))))) (cCons (cTup (cCons (cC (.str (PySem.Str.ofString "call"))) (cCons (cC (.str (PySem.Str.ofString "none"))) (cCons (cVar 1) (cNil))))) (cCons (cTup (cCons (cC (.str (PySem.Str.ofString "call"))) (cCons (cVar 1) (cCons (cC (.str (PySem.Str.ofString "none"))) (cNil))))) (cNil))))))))) (tgName 3)) (cSeq (cAsg (cL (cCatN (cVar 3) (cL (cLst (cCons (cTup (cCons (cC (.str (PySem.Str.ofString "drop"))) (cNil))) (cNil)))))) (tgName 3)) (cSeq (cRet (cL (cCatN (cVar 3) (cL (cLst (cCons (cTup (cCons (cC (.str (PySem.Str.ofString "put"))) (cCons (cVar 1) (cCons (cTup (cCons (cTup (cCons (c1 negD (cVar 2)) (cCons (cC (.int 0)) (cNil)))) (cCons (cTup (cCons (cC (.int 0)) (cCons (c1 negD (cC (.int 1))) (cNil)))) (cCons (cTup (cCons (cC (.int 0)) (cCons (cC (.int 1)) (cNil)))) (cNil))))) (cNil))))) (cCons (cTup (cCons (cC (.str (PySem.Str.ofString "sum"))) (cCons (cVar 1) (cNil)))) (cCons (cTup (cCons (cC (.str (PySem.Str.ofString "drop"))) (cCons (cVar 1) (cCons (cVar 1) (cNil))))) (cCons (cTup (cCons (cVar 1) (cCons (cVar 1) (cNil)))) (cNil)))))))))) (cEnd))))))))))
noncomputable def m__law_bounds : List D → Mem → Res D := runF 1 4 b__law_bounds_
abbrev s__law_deck : Stmt := topS 25
def N__law_deck : List Str := ["script", "stirred", "great", "cell", "own"]
def P__law_deck : List Str := ["script"]
theorem sc__law_deck : FnScope N__law_deck P__law_deck (defScope s__law_deck) := ⟨rfl, rfl, rfl, by decide +kernel, rfl, by decide +kernel, by decide +kernel⟩
noncomputable def b__law_deck_ : SemS := cSeq (cPar 1 2 (cCons (c2 addD (cC (.int 16240)) (c2 mulD (cC (.int 19)) (cCall lenD (cCons (cSl (cVar 0) (cNoP) (cPart (cC (.int 63)))) (cNil))))) (cCons (cR (cLst (cNil))) (cNil)))) (cSeq (cFor (cIter (cSl (cVar 0) (cNoP) (cPart (cC (.int 63))))) (tgName 3) (cSeq (cAsg (c2 addD (c2 mulD (cC (.int 2)) (cCall absD (cCons (cVar 3) (cNil)))) (cCall intD (cCons (c2 ltD (cVar 3) (cC (.int 0))) (cNil)))) (tgName 4)) (cSeq (cAsg (c2 modD (cCall intD (cCons (c2 addD (c2 addD (c2 mulD (cVar 1) (cC (.int 69621))) (cVar 4)) (cC (.int 3))) (cNil))) (cC (.int 4294967291))) (tgName 1)) (cSeq (cIfS (cT (c2 geD (cVar 4) (c2 powD (cC (.int 10)) (cC (.int 15))))) (cSeq (cDo (cM1 appD (cVar 2) (cVar 4))) (cEnd)) (cEnd)) (cEnd))))) (cSeq (cRet (cDisp (cPcons (.inr (PySem.Str.ofString "great")) (cVar 2) (cPcons (.inr (PySem.Str.ofString "mixed")) (cVar 1) (cPcons (.inr (PySem.Str.ofString "turn")) (cC (.int 0)) (cPnil)))))) (cEnd)))
noncomputable def m__law_deck : List D → Mem → Res D := runF 1 5 b__law_deck_
abbrev s__law_frame : Stmt := topS 32
def N__law_frame : List Str := ["deck", "size", "far", "a", "b", "c", "d", "turn", "k"]
def P__law_frame : List Str := ["deck", "size", "far"]
theorem sc__law_frame : FnScope N__law_frame P__law_frame (defScope s__law_frame) := ⟨rfl, rfl, rfl, by decide +kernel, rfl, by decide +kernel, by decide +kernel⟩
noncomputable def b__law_frame_ : SemS := cSeq (cAsg (cTup (cCons (cC (.int 1)) (cCons (cC (.int 0)) (cCons (cC (.int 0)) (cCons (cC (.int 1)) (cNil)))))) (tgSeq (tgCons (tgName 3) (tgCons (tgName 4) (tgCons (tgName 5) (tgCons (tgName 6) (tgNil))))))) (cSeq (cFor (fun ρ M => ((cCons (cCall m__law_next (cCons (cVar 0) (cCons (cC (.int 4)) (cNil)))) (cNil)) ρ M).bind rng1) (tgName 7) (cSeq (cAsg (c2 subD (cCall m__law_next (cCons (cVar 0) (cCons (c2 addD (c2 mulD (cC (.int 2)) (cVar 1)) (cC (.int 1))) (cNil)))) (cVar 1)) (tgName 8)) (cSeq (cIfS (cT (c2 eqD (cCall m__law_next (cCons (cVar 0) (cCons (cC (.int 2)) (cNil)))) (cC (.int 0)))) (cSeq (cPar 3 4 (cCons (c2 addD (cVar 3) (c2 mulD (cVar 8) (cVar 5))) (cCons (c2 addD (cVar 4) (c2 mulD (cVar 8) (cVar 6))) (cNil)))) (cEnd)) (cSeq (cPar 5 6 (cCons (c2 addD (cVar 5) (c2 mulD (cVar 8) (cVar 3))) (cCons (c2 addD (cVar 6) (c2 mulD (cVar 8) (cVar 4))) (cNil)))) (cEnd))) (cEnd)))) (cSeq (cIfS (cT (c2 eqD (cCall m__law_next (cCons (cVar 0) (cCons (cC (.int 2)) (cNil)))) (cC (.int 0)))) (cSeq (cAsg (cTup (cCons (cVar 5) (cCons (cVar 6) (cCons (cVar 3) (cCons (cVar 4) (cNil)))))) (tgSeq (tgCons (tgName 3) (tgCons (tgName 4) (tgCons (tgName 5) (tgCons (tgName 6) (tgNil))))))) (cEnd)) (cEnd)) (cSeq (cRet (cTup (cCons (cVar 3) (cCons (cVar 4) (cCons (cVar 5) (cCons (cVar 6) (cCons (c2 subD (cCall m__law_next (cCons (cVar 0) (cCons (c2 addD (c2 mulD (cC (.int 2)) (cVar 2)) (cC (.int 1))) (cNil)))) (cVar 2)) (cCons (c2 subD (cCall m__law_next (cCons (cVar 0) (cCons (c2 addD (c2 mulD (cC (.int 2)) (cVar 2)) (cC (.int 1))) (cNil)))) (cVar 2)) (cNil))))))))) (cEnd))))
noncomputable def m__law_frame : List D → Mem → Res D := runF 3 9 b__law_frame_
abbrev s__law_names : Stmt := topS 42
def N__law_names : List Str := ["deck", "shelf"]
def P__law_names : List Str := ["deck", "shelf"]
theorem sc__law_names : FnScope N__law_names P__law_names (defScope s__law_names) := ⟨rfl, rfl, rfl, by decide +kernel, rfl, by decide +kernel, by decide +kernel⟩
noncomputable def b__law_names_ : SemS := cSeq (cIfS (cAnd (cT (c2 neE (cVar 1) (cC (.dic [] [])))) (cT (c2 gtD (cCall m__law_next (cCons (cVar 0) (cCons (cC (.int 5)) (cNil)))) (cC (.int 0))))) (cSeq (cRet (cCall m__law_pick (cCons (cVar 0) (cCons (cL (cCallN sortKD (cCons (cVar 1) (cNil)))) (cNil))))) (cEnd)) (cEnd)) (cSeq (cRet (cCall m__law_pick (cCons (cVar 0) (cCons (cL (cLst (cCons (cC (.str (PySem.Str.ofString "a"))) (cCons (cC (.str (PySem.Str.ofString "b"))) (cCons (cC (.str (PySem.Str.ofString "tent"))) (cCons (cC (.str (PySem.Str.ofString "coin"))) (cCons (cC (.str (PySem.Str.ofString "sail"))) (cCons (cC (.str (PySem.Str.ofString "lamp"))) (cCons (cC (.str (PySem.Str.ofString "x"))) (cCons (cC (.str (PySem.Str.ofString "abcdefgh"))) (cCons (cC (.str (PySem.Str.ofString "zebra"))) (cCons (cC (.str (PySem.Str.ofString "q"))) (cNil))))))))))))) (cNil))))) (cEnd))
noncomputable def m__law_names : List D → Mem → Res D := runF 2 2 b__law_names_
abbrev s__law_det : Stmt := topS 28
def N__law_det : List Str := ["one", "other"]
def P__law_det : List Str := ["one", "other"]
theorem sc__law_det : FnScope N__law_det P__law_det (defScope s__law_det) := ⟨rfl, rfl, rfl, by decide +kernel, rfl, by decide +kernel, by decide +kernel⟩
noncomputable def b__law_det_ : SemS := cSeq (cRet (c2 subD (c2 mulD (c2 idxD (cVar 0) (cC (.int 0))) (c2 idxD (cVar 1) (cC (.int 1)))) (c2 mulD (c2 idxD (cVar 0) (cC (.int 1))) (c2 idxD (cVar 1) (cC (.int 0)))))) (cEnd)
noncomputable def m__law_det : List D → Mem → Res D := runF 2 2 b__law_det_
abbrev s__law_bend : Stmt := topS 29
def N__law_bend : List Str := ["one", "other", "third"]
def P__law_bend : List Str := ["one", "other", "third"]
theorem sc__law_bend : FnScope N__law_bend P__law_bend (defScope s__law_bend) := ⟨rfl, rfl, rfl, by decide +kernel, rfl, by decide +kernel, by decide +kernel⟩
noncomputable def b__law_bend_ : SemS := cSeq (cRet (cCall m__law_det (cCons (cTup (cCons (c2 subD (c2 idxD (cVar 1) (cC (.int 0))) (c2 idxD (cVar 0) (cC (.int 0)))) (cCons (c2 subD (c2 idxD (cVar 1) (cC (.int 1))) (c2 idxD (cVar 0) (cC (.int 1)))) (cNil)))) (cCons (cTup (cCons (c2 subD (c2 idxD (cVar 2) (cC (.int 0))) (c2 idxD (cVar 0) (cC (.int 0)))) (cCons (c2 subD (c2 idxD (cVar 2) (cC (.int 1))) (c2 idxD (cVar 0) (cC (.int 1)))) (cNil)))) (cNil))))) (cEnd)
noncomputable def m__law_bend : List D → Mem → Res D := runF 3 3 b__law_bend_
abbrev s__law_hull : Stmt := topS 33
def N__law_hull : List Str := ["points", "rows", "point", "halves", "some", "half"]
def P__law_hull : List Str := ["points"]
theorem sc__law_hull : FnScope N__law_hull P__law_hull (defScope s__law_hull) := ⟨rfl, rfl, rfl, by decide +kernel, rfl, by decide +kernel, by decide +kernel⟩
noncomputable def b__law_hull_ : SemS := cSeq (cAsg (cL (cSortDict (cL (cComp (cIter (cVar 0)) (tgName 2) (cYes) (cTup (cCons (cVar 2) (cCons (cC (.bl true)) (cNil)))) [2])))) (tgName 1)) (cSeq (cAsg (cR (cLst (cNil))) (tgName 3)) (cSeq (cFor (cIter (cTup (cCons (cVar 1) (cCons (c1 revD (cVar 1)) (cNil))))) (tgName 4) (cSeq (cAsg (cR (cLst (cNil))) (tgName 5)) (cSeq (cFor (cIter (cVar 4)) (tgName 2) (cSeq (cWhile (cAnd (cT (c2 gtD (cCall lenD (cCons (cVar 5) (cNil))) (cC (.int 1)))) (cT (c2 leD (cCall m__law_bend (cCons (c2 idxD (cVar 5) (c1 negD (cC (.int 2)))) (cCons (c2 idxD (cVar 5) (c1 negD (cC (.int 1)))) (cCons (cVar 2) (cNil))))) (cC (.int 0))))) (cSeq (cDo (cM0 popD (cVar 5))) (cEnd))) (cSeq (cDo (cM1 appD (cVar 5) (cVar 2))) (cEnd)))) (cSeq (cDo (cM1 appD (cVar 3) (cSl (cVar 5) (cNoP) (cPart (c1 negD (cC (.int 1))))))) (cEnd))))) (cSeq (cRet (cIf (cT (c2 gtD (cCall lenD (cCons (cVar 1) (cNil))) (cC (.int 1)))) (cCall tupleD (cCons (cL (cCatN (c2 idxD (cVar 3) (cC (.int 0))) (c2 idxD (cVar 3) (cC (.int 1))))) (cNil))) (cCall tupleD (cCons (cVar 1) (cNil))))) (cEnd))))
noncomputable def m__law_hull : List D → Mem → Res D := runF 1 6 b__law_hull_
abbrev s__law_polygon : Stmt := topS 41
def N__law_polygon : List Str := ["deck", "turn", "side", "many", "found", "point", "x", "y", "p", "q"]
def P__law_polygon : List Str := ["deck"]
theorem sc__law_polygon : FnScope N__law_polygon P__law_polygon (defScope s__law_polygon) := ⟨rfl, rfl, rfl, by decide +kernel, rfl, by decide +kernel, by decide +kernel⟩
noncomputable def b__law_polygon_ : SemS := cSeq (cFor (fun ρ M => ((cCons (cC (.int 6)) (cNil)) ρ M).bind rng1) (tgName 1) (cSeq (cAsg (cTup (cCons (cCall m__law_pick (cCons (cVar 0) (cCons (cL (cLst (cCons (cC (.int 1)) (cCons (cC (.int 2)) (cCons (cC (.int 3)) (cCons (cC (.int 3)) (cCons (cC (.int 5)) (cCons (cC (.int 9)) (cNil))))))))) (cNil)))) (cCons (cCall m__law_pick (cCons (cVar 0) (cCons (cL (cLst (cCons (cC (.int 3)) (cCons (cC (.int 3)) (cCons (cC (.int 4)) (cCons (cC (.int 5)) (cCons (cC (.int 9)) (cCons (cC (.int 16)) (cNil))))))))) (cNil)))) (cNil)))) (tgSeq (tgCons (tgName 2) (tgCons (tgName 3) (tgNil))))) (cSeq (cAsg (cCall m__law_hull (cCons (cL (cComp (fun ρ M => ((cCons (cVar 3) (cNil)) ρ M).bind rng1) (tgName 5) (cYes) (cTup (cCons (cCall m__law_next (cCons (cVar 0) (cCons (c2 addD (cVar 2) (cC (.int 1))) (cNil)))) (cCons (cCall m__law_next (cCons (cVar 0) (cCons (c2 addD (cVar 2) (cC (.int 1))) (cNil)))) (cNil)))) [5])) (cNil))) (tgName 4)) (cSeq (cIfS (cT (cChain ltD ltD (cC (.int 2)) (cCall lenD (cCons (cVar 4) (cNil))) (cC (.int 13)))) (cSeq (cAsg (cCall m__law_pick (cCons (cVar 0) (cCons (cL (cLst (cCons (cTup (cCons (cC (.int 0)) (cCons (cC (.int 0)) (cNil)))) (cCons (cTup (cCons (cC (.int 0)) (cCons (cC (.int 0)) (cNil)))) (cCons (cTup (cCons (c1 negD (cC (.int 1))) (cCons (c1 negD (cC (.int 1))) (cNil)))) (cCons (cTup (cCons (c1 negD (cC (.int 3))) (cCons (cC (.int 2)) (cNil)))) (cCons (cTup (cCons (cC (.int 999000)) (cCons (c1 negD (cC (.int 999000))) (cNil)))) (cNil)))))))) (cNil)))) (tgSeq (tgCons (tgName 6) (tgCons (tgName 7) (tgNil))))) (cSeq (cRet (cCall tupleD (cCons (cL (cComp (cIter (cVar 4)) (tgSeq (tgCons (tgName 8) (tgCons (tgName 9) (tgNil)))) (cYes) (cTup (cCons (c2 addD (cVar 6) (cVar 8)) (cCons (c2 addD (cVar 7) (cVar 9)) (cNil)))) [8, 9])) (cNil)))) (cEnd))) (cEnd)) (cEnd))))) (cSeq (cRet (cTup (cCons (cTup (cCons (cC (.int 0)) (cCons (cC (.int 0)) (cNil)))) (cCons (cTup (cCons (c2 addD (cC (.int 1)) (cCall m__law_next (cCons (cVar 0) (cCons (cC (.int 5)) (cNil))))) (cCons (cC (.int 0)) (cNil)))) (cCons (cTup (cCons (cC (.int 0)) (cCons (cC (.int 1)) (cNil)))) (cNil)))))) (cEnd))
noncomputable def m__law_polygon : List D → Mem → Res D := runF 1 10 b__law_polygon_
abbrev s__law_edit : Stmt := topS 43
def N__law_edit : List Str := ["deck", "shelf", "lot", "word", "name", "some", "x", "y", "far", "point"]
def P__law_edit : List Str := ["deck", "shelf"]
theorem sc__law_edit : FnScope N__law_edit P__law_edit (defScope s__law_edit) := ⟨rfl, rfl, rfl, by decide +kernel, rfl, by decide +kernel, by decide +kernel⟩
noncomputable def b__law_edit_ : SemS := cSeq (cAsg (cL (cLst (cCons (cC (.str (PySem.Str.ofString "put"))) (cCons (cC (.str (PySem.Str.ofString "put"))) (cCons (cC (.str (PySem.Str.ofString "put"))) (cCons (cC (.str (PySem.Str.ofString "drop"))) (cCons (cC (.str (PySem.Str.ofString "call"))) (cCons (cC (.str (PySem.Str.ofString "move"))) (cCons (cC (.str (PySem.Str.ofString "move"))) (cCons (cC (.str (PySem.Str.ofString "more"))) (cCons (cC (.str (PySem.Str.ofString "more"))) (cCons (cC (.str (PySem.Str.ofString "less"))) (cCons (cC (.str (PySem.Str.ofString "less"))) (cCons (cC (.str (PySem.Str.ofString "sum"))) (cCons (cC (.str (PySem.Str.ofString "times"))) (cNil)))))))))))))))) (tgName 2)) (cSeq (cAsg (cCall m__law_pick (cCons (cVar 0) (cCons (cVar 2) (cNil)))) (tgName 3)) (cSeq (cAsg (cCall m__law_names (cCons (cVar 0) (cCons (cVar 1) (cNil)))) (tgName 4)) (cSeq (cIfS (cT (c2 eqD (cVar 3) (cC (.str (PySem.Str.ofString "put"))))) (cSeq (cAsg (cL (cLst (cCons (cC (.str (PySem.Str.ofString "a"))) (cCons (cC (.str (PySem.Str.ofString "b"))) (cCons (cC (.str (PySem.Str.ofString "c"))) (cCons (cC (.str (PySem.Str.ofString "tent"))) (cCons (cC (.str (PySem.Str.ofString "coin"))) (cCons (cC (.str (PySem.Str.ofString "sail"))) (cCons (cC (.str (PySem.Str.ofString "lamp"))) (cCons (cC (.str (PySem.Str.ofString "x"))) (cCons (cC (.str (PySem.Str.ofString "abcdefgh"))) (cCons (cC (.str (PySem.Str.ofString "zebra"))) (cCons (cC (.str (PySem.Str.ofString "q"))) (cNil)))))))))))))) (tgName 5)) (cSeq (cRet (cTup (cCons (cVar 3) (cCons (cCall m__law_pick (cCons (cVar 0) (cCons (cVar 5) (cNil)))) (cCons (cCall m__law_polygon (cCons (cVar 0) (cNil))) (cNil)))))) (cEnd))) (cEnd)) (cSeq (cIfS (cT (c2 eqD (cVar 3) (cC (.str (PySem.Str.ofString "drop"))))) (cSeq (cRet (cTup (cCons (cVar 3) (cCons (cVar 4) (cNil))))) (cEnd)) (cEnd)) (cSeq (cIfS (cT (c2 eqD (cVar 3) (cC (.str (PySem.Str.ofString "call"))))) (cSeq (cRet (cTup (cCons (cVar 3) (cCons (cVar 4) (cCons (cCall m__law_names (cCons (cVar 0) (cCons (cIf (cT (c2 gtD (cCall m__law_next (cCons (cVar 0) (cCons (cC (.int 3)) (cNil)))) (cC (.int 0)))) (cC (.dic [] [])) (cVar 1)) (cNil)))) (cNil)))))) (cEnd)) (cEnd)) (cSeq (cIfS (cT (c2 eqD (cVar 3) (cC (.str (PySem.Str.ofString "move"))))) (cSeq (cRet (cTup (cCons (cVar 3) (cCons (cVar 4) (cCons (cCall m__law_frame (cCons (cVar 0) (cCons (cCall m__law_pick (cCons (cVar 0) (cCons (cL (cLst (cCons (cC (.int 1)) (cCons (cC (.int 1)) (cCons (cC (.int 2)) (cNil)))))) (cNil)))) (cCons (cCall m__law_pick (cCons (cVar 0) (cCons (cL (cLst (cCons (cC (.int 0)) (cCons (cC (.int 3)) (cCons (cC (.int 3)) (cCons (cC (.int 400000)) (cNil))))))) (cNil)))) (cNil))))) (cNil)))))) (cEnd)) (cEnd)) (cSeq (cIfS (cT (c2 eqD (cVar 3) (cC (.str (PySem.Str.ofString "more"))))) (cSeq (cAsg (c2 idxD (cDGet2 (cVar 1) (cVar 4) (cTup (cCons (cTup (cCons (cC (.int 0)) (cCons (cC (.int 0)) (cNil)))) (cNil)))) (cC (.int 0))) (tgSeq (tgCons (tgName 6) (tgCons (tgName 7) (tgNil))))) (cSeq (cAsg (cCall m__law_pick (cCons (cVar 0) (cCons (cL (cLst (cCons (cC (.int 1)) (cCons (cC (.int 2)) (cCons (cC (.int 2)) (cCons (cC (.int 5)) (cNil))))))) (cNil)))) (tgName 8)) (cSeq (cAsg (cTup (cCons (c2 subD (c2 addD (cVar 6) (cCall m__law_next (cCons (cVar 0) (cCons (c2 addD (c2 mulD (cC (.int 2)) (cVar 8)) (cC (.int 1))) (cNil))))) (cVar 8)) (cCons (c2 subD (c2 addD (cVar 7) (cCall m__law_next (cCons (cVar 0) (cCons (c2 addD (c2 mulD (cC (.int 2)) (cVar 8)) (cC (.int 1))) (cNil))))) (cVar 8)) (cNil)))) (tgName 9)) (cSeq (cRet (cTup (cCons (cVar 3) (cCons (cVar 4) (cCons (cTup (cCons (cCall max2D (cCons (c1 negD (cC (.int 1000000))) (cCons (cCall min2D (cCons (cC (.int 1000000)) (cCons (c2 idxD (cVar 9) (cC (.int 0))) (cNil)))) (cNil)))) (cCons (cCall max2D (cCons (c1 negD (cC (.int 1000000))) (cCons (cCall min2D (cCons (cC (.int 1000000)) (cCons (c2 idxD (cVar 9) (cC (.int 1))) (cNil)))) (cNil)))) (cNil)))) (cNil)))))) (cEnd))))) (cEnd)) (cSeq (cIfS (cT (c2 eqD (cVar 3) (cC (.str (PySem.Str.ofString "less"))))) (cSeq (cRet (cTup (cCons (cVar 3) (cCons (cVar 4) (cCons (cCall m__law_pick (cCons (cVar 0) (cCons (cL (cLst (cCons (cC (.int 0)) (cCons (cC (.int 0)) (cCons (cC (.int 1)) (cCons (cC (.int 1)) (cCons (cC (.int 2)) (cCons (cC (.int 2)) (cCons (cC (.int 3)) (cCons (cC (.int 4)) (cCons (cC (.int 11)) (cNil)))))))))))) (cNil)))) (cNil)))))) (cEnd)) (cEnd)) (cSeq (cRet (cTup (cCons (cVar 3) (cCons (cVar 4) (cCons (cIf (cT (c2 eqD (cVar 3) (cC (.str (PySem.Str.ofString "sum"))))) (cCall m__law_names (cCons (cVar 0) (cCons (cVar 1) (cNil)))) (cCall m__law_pick (cCons (cVar 0) (cCons (cL (cLst (cCons (cC (.int 1)) (cCons (cC (.int 1)) (cCons (cC (.int 2)) (cCons (cC (.int 2)) (cCons (cC (.int 3)) (cCons (cC (.int 100)) (cNil))))))))) (cNil))))) (cNil)))))) (cEnd))))))))))
noncomputable def m__law_edit : List D → Mem → Res D := runF 2 10 b__law_edit_
abbrev s__law_is_number : Stmt := topS 30
def N__law_is_number : List Str := ["value", "most"]
def P__law_is_number : List Str := ["value", "most"]
theorem sc__law_is_number : FnScope N__law_is_number P__law_is_number (defScope s__law_is_number) := ⟨rfl, rfl, rfl, by decide +kernel, rfl, by decide +kernel, by decide +kernel⟩
noncomputable def b__law_is_number_ : SemS := cSeq (cRet (cAndV (c1 (isiD "int") (cVar 0)) (cAndV (cNotV (c1 (isiD "bool") (cVar 0))) (cChain leD leD (c1 negD (cVar 1)) (cVar 0) (cVar 1))))) (cEnd)
noncomputable def m__law_is_number : List D → Mem → Res D := runF 2 2 b__law_is_number_
abbrev s__law_is_frame : Stmt := topS 38
def N__law_is_frame : List Str := ["value", "item"]
def P__law_is_frame : List Str := ["value"]
theorem sc__law_is_frame : FnScope N__law_is_frame P__law_is_frame (defScope s__law_is_frame) := ⟨rfl, rfl, rfl, by decide +kernel, rfl, by decide +kernel, by decide +kernel⟩
noncomputable def b__law_is_frame_ : SemS := cSeq (cIfS (cOr (cNot (cT (c1 (isiD "tuple") (cVar 0)))) (cOr (cT (c2 neD (cCall lenD (cCons (cVar 0) (cNil))) (cC (.int 6)))) (cNot (cT (cCall allD (cCons (cL (cComp (cIter (cVar 0)) (tgName 1) (cYes) (cCall m__law_is_number (cCons (cVar 1) (cCons (cC (.int 1000000)) (cNil)))) [1])) (cNil))))))) (cSeq (cRet (cC (.bl false))) (cEnd)) (cEnd)) (cSeq (cRet (c2 inD (c2 subD (c2 mulD (c2 idxD (cVar 0) (cC (.int 0))) (c2 idxD (cVar 0) (cC (.int 3)))) (c2 mulD (c2 idxD (cVar 0) (cC (.int 1))) (c2 idxD (cVar 0) (cC (.int 2))))) (cTup (cCons (cC (.int 1)) (cCons (c1 negD (cC (.int 1))) (cNil)))))) (cEnd))
noncomputable def m__law_is_frame : List D → Mem → Res D := runF 1 2 b__law_is_frame_
abbrev s__law_is_from : Stmt := topS 36
def N__law_is_from : List Str := ["value", "low", "high"]
def P__law_is_from : List Str := ["value", "low", "high"]
theorem sc__law_is_from : FnScope N__law_is_from P__law_is_from (defScope s__law_is_from) := ⟨rfl, rfl, rfl, by decide +kernel, rfl, by decide +kernel, by decide +kernel⟩
noncomputable def b__law_is_from_ : SemS := cSeq (cRet (cAndV (c1 (isiD "int") (cVar 0)) (cAndV (cNotV (c1 (isiD "bool") (cVar 0))) (cChain leD leD (cVar 1) (cVar 0) (cVar 2))))) (cEnd)
noncomputable def m__law_is_from : List D → Mem → Res D := runF 3 3 b__law_is_from_
abbrev s__law_is_name : Stmt := topS 37
def N__law_is_name : List Str := ["value", "sign"]
def P__law_is_name : List Str := ["value"]
theorem sc__law_is_name : FnScope N__law_is_name P__law_is_name (defScope s__law_is_name) := ⟨rfl, rfl, rfl, by decide +kernel, rfl, by decide +kernel, by decide +kernel⟩
noncomputable def b__law_is_name_ : SemS := cSeq (cIfS (cOr (cNot (cT (c1 (isiD "str") (cVar 0)))) (cOr (cNot (cT (cChain leD leD (cC (.int 1)) (cCall lenD (cCons (cVar 0) (cNil))) (cC (.int 8))))) (cT (c2 eqD (cVar 0) (cC (.str (PySem.Str.ofString "none"))))))) (cSeq (cRet (cC (.bl false))) (cEnd)) (cEnd)) (cSeq (cRet (c2 eqD (cL (cComp (cIter (cVar 0)) (tgName 1) (cT (c2 notInD (cVar 1) (cC (.str (PySem.Str.ofString "abcdefghijklmnopqrstuvwxyz"))))) (cVar 1) [1])) (cL (cLst (cNil))))) (cEnd))
noncomputable def m__law_is_name : List D → Mem → Res D := runF 1 2 b__law_is_name_
abbrev s__law_is_pair : Stmt := topS 31
def N__law_is_pair : List Str := ["value", "most", "item"]
def P__law_is_pair : List Str := ["value", "most"]
theorem sc__law_is_pair : FnScope N__law_is_pair P__law_is_pair (defScope s__law_is_pair) := ⟨rfl, rfl, rfl, by decide +kernel, rfl, by decide +kernel, by decide +kernel⟩
noncomputable def b__law_is_pair_ : SemS := cSeq (cRet (cAndV (c1 (isiD "tuple") (cVar 0)) (cAndV (c2 eqD (cCall lenD (cCons (cVar 0) (cNil))) (cC (.int 2))) (cCall allD (cCons (cL (cComp (cIter (cVar 0)) (tgName 2) (cYes) (cCall m__law_is_number (cCons (cVar 2) (cCons (cVar 1) (cNil)))) [2])) (cNil)))))) (cEnd)
noncomputable def m__law_is_pair : List D → Mem → Res D := runF 2 3 b__law_is_pair_
abbrev s__law_is_below : Stmt := topS 34
def N__law_is_below : List Str := ["one", "other", "first", "second", "way"]
def P__law_is_below : List Str := ["one", "other"]
theorem sc__law_is_below : FnScope N__law_is_below P__law_is_below (defScope s__law_is_below) := ⟨rfl, rfl, rfl, by decide +kernel, rfl, by decide +kernel, by decide +kernel⟩
noncomputable def b__law_is_below_ : SemS := cSeq (cAsg (cL (cComp (cIter (cTup (cCons (cVar 0) (cCons (cVar 1) (cNil))))) (tgName 4) (cYes) (cCall intD (cCons (cOrV (c2 ltD (c2 idxD (cVar 4) (cC (.int 1))) (cC (.int 0))) (cAndV (c2 eqD (c2 idxD (cVar 4) (cC (.int 1))) (cC (.int 0))) (c2 ltD (c2 idxD (cVar 4) (cC (.int 0))) (cC (.int 0))))) (cNil))) [4])) (tgSeq (tgCons (tgName 2) (tgCons (tgName 3) (tgNil))))) (cSeq (cRet (cIf (cT (c2 eqD (cVar 2) (cVar 3))) (c2 gtD (cCall m__law_det (cCons (cVar 0) (cCons (cVar 1) (cNil)))) (cC (.int 0))) (c2 ltD (cVar 2) (cVar 3)))) (cEnd))
noncomputable def m__law_is_below : List D → Mem → Res D := runF 2 5 b__law_is_below_
abbrev s__law_polygon_fault : Stmt := topS 35
def N__law_polygon_fault : List Str := ["value", "k", "point", "many", "ways"]
def P__law_polygon_fault : List Str := ["value"]
theorem sc__law_polygon_fault : FnScope N__law_polygon_fault P__law_polygon_fault (defScope s__law_polygon_fault) := ⟨rfl, rfl, rfl, by decide +kernel, rfl, by decide +kernel, by decide +kernel⟩
noncomputable def b__law_polygon_fault_ : SemS := cSeq (cIfS (cOr (cNot (cT (c1 (isiD "tuple") (cVar 0)))) (cNot (cT (cChain leD leD (cC (.int 3)) (cCall lenD (cCons (cVar 0) (cNil))) (cC (.int 12)))))) (cSeq (cRet (cC (.str (PySem.Str.ofString "form")))) (cEnd)) (cEnd)) (cSeq (cFor (fun ρ M => ((cCons (cVar 0) (cNil)) ρ M).bind enumS) (tgSeq (tgCons (tgName 1) (tgCons (tgName 2) (tgNil)))) (cSeq (cIfS (cNot (cT (cCall m__law_is_pair (cCons (cVar 2) (cCons (cC (.int 1000000)) (cNil)))))) (cSeq (cRet (cTup (cCons (cC (.str (PySem.Str.ofString "point"))) (cCons (cVar 1) (cNil))))) (cEnd)) (cEnd)) (cEnd))) (cSeq (cAsg (cTup (cCons (cCall lenD (cCons (cVar 0) (cNil))) (cCons (cR (cLst (cNil))) (cNil)))) (tgSeq (tgCons (tgName 3) (tgCons (tgName 4) (tgNil))))) (cSeq (cFor (fun ρ M => ((cCons (cVar 0) (cNil)) ρ M).bind enumS) (tgSeq (tgCons (tgName 1) (tgCons (tgName 2) (tgNil)))) (cSeq (cIfS (cT (c2 leD (cCall m__law_bend (cCons (c2 idxD (cVar 0) (c2 subD (cVar 1) (cC (.int 1)))) (cCons (cVar 2) (cCons (c2 idxD (cVar 0) (c2 modD (cCall intD (cCons (c2 addD (cVar 1) (cC (.int 1))) (cNil))) (cVar 3))) (cNil))))) (cC (.int 0)))) (cSeq (cRet (cTup (cCons (cC (.str (PySem.Str.ofString "bend"))) (cCons (cVar 1) (cNil))))) (cEnd)) (cEnd)) (cSeq (cDo (cM1 appD (cVar 4) (cTup (cCons (c2 subD (c2 idxD (cVar 2) (cC (.int 0))) (c2 idxD (c2 idxD (cVar 0) (c2 subD (cVar 1) (cC (.int 1)))) (cC (.int 0)))) (cCons (c2 subD (c2 idxD (cVar 2) (cC (.int 1))) (c2 idxD (c2 idxD (cVar 0) (c2 subD (cVar 1) (cC (.int 1)))) (cC (.int 1)))) (cNil)))))) (cEnd)))) (cSeq (cIfS (cT (c2 gtD (cCall lenD (cCons (cL (cComp (fun ρ M => ((cCons (cVar 3) (cNil)) ρ M).bind rng1) (tgName 1) (cNot (cT (cCall m__law_is_below (cCons (c2 idxD (cVar 4) (c2 subD (cVar 1) (cC (.int 1)))) (cCons (c2 idxD (cVar 4) (cVar 1)) (cNil)))))) (cC (.int 1)) [1])) (cNil))) (cC (.int 1)))) (cSeq (cRet (cC (.str (PySem.Str.ofString "round")))) (cEnd)) (cEnd)) (cSeq (cRet (cIf (cT (c2 eqD (c2 idxD (cVar 0) (cC (.int 0))) (cCall minTD (cCons (cVar 0) (cNil))))) (cC .non) (cC (.str (PySem.Str.ofString "first"))))) (cEnd))))))
noncomputable def m__law_polygon_fault : List D → Mem → Res D := runF 1 5 b__law_polygon_fault_
abbrev s__law_is_item : Stmt := topS 39
def N__law_is_item : List Str := ["word", "k", "value"]
def P__law_is_item : List Str := ["word", "k", "value"]
theorem sc__law_is_item : FnScope N__law_is_item P__law_is_item (defScope s__law_is_item) := ⟨rfl, rfl, rfl, by decide +kernel, rfl, by decide +kernel, by decide +kernel⟩
noncomputable def b__law_is_item_ : SemS := cSeq (cIfS (cOr (cT (c2 eqD (cVar 1) (cC (.int 1)))) (cT (c2 inD (cVar 0) (cTup (cCons (cC (.str (PySem.Str.ofString "call"))) (cCons (cC (.str (PySem.Str.ofString "sum"))) (cNil))))))) (cSeq (cRet (cCall m__law_is_name (cCons (cVar 2) (cNil)))) (cEnd)) (cEnd)) (cSeq (cIfS (cT (c2 eqD (cVar 0) (cC (.str (PySem.Str.ofString "put"))))) (cSeq (cRet (c1 isN (cCall m__law_polygon_fault (cCons (cVar 2) (cNil))))) (cEnd)) (cEnd)) (cSeq (cIfS (cT (c2 eqD (cVar 0) (cC (.str (PySem.Str.ofString "move"))))) (cSeq (cRet (cCall m__law_is_frame (cCons (cVar 2) (cNil)))) (cEnd)) (cEnd)) (cSeq (cIfS (cT (c2 eqD (cVar 0) (cC (.str (PySem.Str.ofString "more"))))) (cSeq (cRet (cCall m__law_is_pair (cCons (cVar 2) (cCons (cC (.int 1000000)) (cNil))))) (cEnd)) (cEnd)) (cSeq (cRet (cIf (cT (c2 eqD (cVar 0) (cC (.str (PySem.Str.ofString "less"))))) (cCall m__law_is_from (cCons (cVar 2) (cCons (cC (.int 0)) (cCons (cC (.int 11)) (cNil))))) (cCall m__law_is_from (cCons (cVar 2) (cCons (cC (.int 1)) (cCons (cC (.int 100)) (cNil))))))) (cEnd)))))
noncomputable def m__law_is_item : List D → Mem → Res D := runF 3 3 b__law_is_item_
abbrev s__law_edit_fault : Stmt := topS 40
def N__law_edit_fault : List Str := ["value", "k"]
def P__law_edit_fault : List Str := ["value"]
theorem sc__law_edit_fault : FnScope N__law_edit_fault P__law_edit_fault (defScope s__law_edit_fault) := ⟨rfl, rfl, rfl, by decide +kernel, rfl, by decide +kernel, by decide +kernel⟩
noncomputable def b__law_edit_fault_ : SemS := cSeq (cIfS (cOr (cNot (cT (c1 (isiD "tuple") (cVar 0)))) (cOr (cT (c2 eqD (cVar 0) (cTup (cNil)))) (cNot (cT (c1 (isiD "str") (c2 idxD (cVar 0) (cC (.int 0)))))))) (cSeq (cRet (cC (.str (PySem.Str.ofString "form")))) (cEnd)) (cEnd)) (cSeq (cIfS (cT (c2 notInD (c2 idxD (cVar 0) (cC (.int 0))) (cTup (cCons (cC (.str (PySem.Str.ofString "put"))) (cCons (cC (.str (PySem.Str.ofString "drop"))) (cCons (cC (.str (PySem.Str.ofString "call"))) (cCons (cC (.str (PySem.Str.ofString "move"))) (cCons (cC (.str (PySem.Str.ofString "more"))) (cCons (cC (.str (PySem.Str.ofString "less"))) (cCons (cC (.str (PySem.Str.ofString "sum"))) (cCons (cC (.str (PySem.Str.ofString "times"))) (cNil)))))))))))) (cSeq (cRet (cC (.str (PySem.Str.ofString "word")))) (cEnd)) (cEnd)) (cSeq (cIfS (cT (c2 neD (cCall lenD (cCons (cVar 0) (cNil))) (cIf (cT (c2 eqD (c2 idxD (cVar 0) (cC (.int 0))) (cC (.str (PySem.Str.ofString "drop"))))) (cC (.int 2)) (cC (.int 3))))) (cSeq (cRet (cC (.str (PySem.Str.ofString "many")))) (cEnd)) (cEnd)) (cSeq (cFor (fun ρ M => ((cCons (cC (.int 1)) (cCons (cCall lenD (cCons (cVar 0) (cNil))) (cNil))) ρ M).bind rng2) (tgName 1) (cSeq (cIfS (cNot (cT (cCall m__law_is_item (cCons (c2 idxD (cVar 0) (cC (.int 0))) (cCons (cVar 1) (cCons (c2 idxD (cVar 0) (cVar 1)) (cNil))))))) (cSeq (cRet (cTup (cCons (cC (.str (PySem.Str.ofString "item"))) (cCons (cVar 1) (cNil))))) (cEnd)) (cEnd)) (cEnd))) (cSeq (cRet (cC .non)) (cEnd)))))
noncomputable def m__law_edit_fault : List D → Mem → Res D := runF 1 2 b__law_edit_fault_
abbrev s_frame_det : Stmt := topS 12
def N_frame_det : List Str := ["frame"]
def P_frame_det : List Str := ["frame"]
theorem sc_frame_det : FnScope N_frame_det P_frame_det (defScope s_frame_det) := ⟨rfl, rfl, rfl, by decide +kernel, rfl, by decide +kernel, by decide +kernel⟩
noncomputable def b_frame_det_ : SemS := cSeq (cRet (c2 subD (c2 mulD (c2 idxD (cVar 0) (cC (.int 0))) (c2 idxD (cVar 0) (cC (.int 3)))) (c2 mulD (c2 idxD (cVar 0) (cC (.int 1))) (c2 idxD (cVar 0) (cC (.int 2)))))) (cEnd)
noncomputable def m_frame_det : List D → Mem → Res D := runF 1 1 b_frame_det_
abbrev s_is_number : Stmt := topS 4
def N_is_number : List Str := ["value"]
def P_is_number : List Str := ["value"]
theorem sc_is_number : FnScope N_is_number P_is_number (defScope s_is_number) := ⟨rfl, rfl, rfl, by decide +kernel, rfl, by decide +kernel, by decide +kernel⟩
noncomputable def b_is_number_ : SemS := cSeq (cRet (cAndV (c1 (isiD "int") (cVar 0)) (cNotV (c1 (isiD "bool") (cVar 0))))) (cEnd)
noncomputable def m_is_number : List D → Mem → Res D := runF 1 1 b_is_number_
abbrev s_is_within : Stmt := topS 5
def N_is_within : List Str := ["value", "least", "most"]
def P_is_within : List Str := ["value", "least", "most"]
theorem sc_is_within : FnScope N_is_within P_is_within (defScope s_is_within) := ⟨rfl, rfl, rfl, by decide +kernel, rfl, by decide +kernel, by decide +kernel⟩
noncomputable def b_is_within_ : SemS := cSeq (cRet (cAndV (cCall m_is_number (cCons (cVar 0) (cNil))) (cChain leD leD (cVar 1) (cVar 0) (cVar 2)))) (cEnd)
noncomputable def m_is_within : List D → Mem → Res D := runF 3 3 b_is_within_
abbrev s_frame_error : Stmt := topS 11
def N_frame_error : List Str := ["value", "place", "number"]
def P_frame_error : List Str := ["value"]
theorem sc_frame_error : FnScope N_frame_error P_frame_error (defScope s_frame_error) := ⟨rfl, rfl, rfl, by decide +kernel, rfl, by decide +kernel, by decide +kernel⟩
noncomputable def b_frame_error_ : SemS := cSeq (cIfS (cOr (cNot (cT (c1 (isiD "tuple") (cVar 0)))) (cT (c2 neD (cCall lenD (cCons (cVar 0) (cNil))) (cC (.int 6))))) (cSeq (cRet (cC (.str (PySem.Str.ofString "form")))) (cEnd)) (cEnd)) (cSeq (cFor (fun ρ M => ((cCons (cVar 0) (cNil)) ρ M).bind enumS) (tgSeq (tgCons (tgName 1) (tgCons (tgName 2) (tgNil)))) (cSeq (cIfS (cNot (cT (cCall m_is_within (cCons (cVar 2) (cCons (c1 negD (cC (.int 1000000))) (cCons (cC (.int 1000000)) (cNil))))))) (cSeq (cRet (cTup (cCons (cC (.str (PySem.Str.ofString "number"))) (cCons (cVar 1) (cNil))))) (cEnd)) (cEnd)) (cEnd))) (cSeq (cRet (cIf (cT (c2 inD (cCall m_frame_det (cCons (cVar 0) (cNil))) (cTup (cCons (cC (.int 1)) (cCons (c1 negD (cC (.int 1))) (cNil)))))) (cC .non) (cC (.str (PySem.Str.ofString "det"))))) (cEnd)))
noncomputable def m_frame_error : List D → Mem → Res D := runF 1 3 b_frame_error_
abbrev s_is_name : Stmt := topS 21
def N_is_name : List Str := ["value", "sign"]
def P_is_name : List Str := ["value"]
theorem sc_is_name : FnScope N_is_name P_is_name (defScope s_is_name) := ⟨rfl, rfl, rfl, by decide +kernel, rfl, by decide +kernel, by decide +kernel⟩
noncomputable def b_is_name_ : SemS := cSeq (cIfS (cOr (cNot (cT (c1 (isiD "str") (cVar 0)))) (cOr (cNot (cT (cChain leD leD (cC (.int 1)) (cCall lenD (cCons (cVar 0) (cNil))) (cC (.int 8))))) (cT (c2 eqD (cVar 0) (cC (.str (PySem.Str.ofString "none"))))))) (cSeq (cRet (cC (.bl false))) (cEnd)) (cEnd)) (cSeq (cRet (cCall allD (cCons (cL (cComp (cIter (cVar 0)) (tgName 1) (cYes) (c2 inD (cVar 1) (cC (.str (PySem.Str.ofString "abcdefghijklmnopqrstuvwxyz")))) [1])) (cNil)))) (cEnd))
noncomputable def m_is_name : List D → Mem → Res D := runF 1 2 b_is_name_
abbrev s_is_point : Stmt := topS 6
def N_is_point : List Str := ["value", "most", "item"]
def P_is_point : List Str := ["value", "most"]
theorem sc_is_point : FnScope N_is_point P_is_point (defScope s_is_point) := ⟨rfl, rfl, rfl, by decide +kernel, rfl, by decide +kernel, by decide +kernel⟩
noncomputable def b_is_point_ : SemS := cSeq (cRet (cAndV (c1 (isiD "tuple") (cVar 0)) (cAndV (c2 eqD (cCall lenD (cCons (cVar 0) (cNil))) (cC (.int 2))) (cCall allD (cCons (cL (cComp (cIter (cVar 0)) (tgName 2) (cYes) (cCall m_is_within (cCons (cVar 2) (cCons (c1 negD (cVar 1)) (cCons (cVar 1) (cNil))))) [2])) (cNil)))))) (cEnd)
noncomputable def m_is_point : List D → Mem → Res D := runF 2 3 b_is_point_
abbrev s_det : Stmt := topS 8
def N_det : List Str := ["one", "other"]
def P_det : List Str := ["one", "other"]
theorem sc_det : FnScope N_det P_det (defScope s_det) := ⟨rfl, rfl, rfl, by decide +kernel, rfl, by decide +kernel, by decide +kernel⟩
noncomputable def b_det_ : SemS := cSeq (cRet (c2 subD (c2 mulD (c2 idxD (cVar 0) (cC (.int 0))) (c2 idxD (cVar 1) (cC (.int 1)))) (c2 mulD (c2 idxD (cVar 0) (cC (.int 1))) (c2 idxD (cVar 1) (cC (.int 0)))))) (cEnd)
noncomputable def m_det : List D → Mem → Res D := runF 2 2 b_det_
abbrev s_minus : Stmt := topS 7
def N_minus : List Str := ["one", "other"]
def P_minus : List Str := ["one", "other"]
theorem sc_minus : FnScope N_minus P_minus (defScope s_minus) := ⟨rfl, rfl, rfl, by decide +kernel, rfl, by decide +kernel, by decide +kernel⟩
noncomputable def b_minus_ : SemS := cSeq (cRet (cTup (cCons (c2 subD (c2 idxD (cVar 0) (cC (.int 0))) (c2 idxD (cVar 1) (cC (.int 0)))) (cCons (c2 subD (c2 idxD (cVar 0) (cC (.int 1))) (c2 idxD (cVar 1) (cC (.int 1)))) (cNil))))) (cEnd)
noncomputable def m_minus : List D → Mem → Res D := runF 2 2 b_minus_
abbrev s_sides : Stmt := topS 15
def N_sides : List Str := ["corners", "place", "corner"]
def P_sides : List Str := ["corners"]
theorem sc_sides : FnScope N_sides P_sides (defScope s_sides) := ⟨rfl, rfl, rfl, by decide +kernel, rfl, by decide +kernel, by decide +kernel⟩
noncomputable def b_sides_ : SemS := cSeq (cRet (cL (cComp (fun ρ M => ((cCons (cVar 0) (cNil)) ρ M).bind enumS) (tgSeq (tgCons (tgName 1) (tgCons (tgName 2) (tgNil)))) (cYes) (cCall m_minus (cCons (c2 idxD (cVar 0) (c2 modD (c2 addD (cVar 1) (cC (.int 1))) (cCall lenD (cCons (cVar 0) (cNil))))) (cCons (cVar 2) (cNil)))) [1, 2]))) (cEnd)
noncomputable def m_sides : List D → Mem → Res D := runF 1 3 b_sides_
abbrev s_first_bend : Stmt := topS 16
def N_first_bend : List Str := ["corners", "some", "place", "side"]
def P_first_bend : List Str := ["corners"]
theorem sc_first_bend : FnScope N_first_bend P_first_bend (defScope s_first_bend) := ⟨rfl, rfl, rfl, by decide +kernel, rfl, by decide +kernel, by decide +kernel⟩
noncomputable def b_first_bend_ : SemS := cSeq (cAsg (cCall m_sides (cCons (cVar 0) (cNil))) (tgName 1)) (cSeq (cFor (fun ρ M => ((cCons (cVar 1) (cNil)) ρ M).bind enumS) (tgSeq (tgCons (tgName 2) (tgCons (tgName 3) (tgNil)))) (cSeq (cIfS (cT (c2 leD (cCall m_det (cCons (c2 idxD (cVar 1) (c2 subD (cVar 2) (cC (.int 1)))) (cCons (cVar 3) (cNil)))) (cC (.int 0)))) (cSeq (cRet (cVar 2)) (cEnd)) (cEnd)) (cEnd))) (cSeq (cRet (cC .non)) (cEnd)))
noncomputable def m_first_bend : List D → Mem → Res D := runF 1 4 b_first_bend_
abbrev s_is_upper : Stmt := topS 9
def N_is_upper : List Str := ["vector"]
def P_is_upper : List Str := ["vector"]
theorem sc_is_upper : FnScope N_is_upper P_is_upper (defScope s_is_upper) := ⟨rfl, rfl, rfl, by decide +kernel, rfl, by decide +kernel, by decide +kernel⟩
noncomputable def b_is_upper_ : SemS := cSeq (cRet (cOrV (c2 gtD (c2 idxD (cVar 0) (cC (.int 1))) (cC (.int 0))) (cAndV (c2 eqD (c2 idxD (cVar 0) (cC (.int 1))) (cC (.int 0))) (c2 gtD (c2 idxD (cVar 0) (cC (.int 0))) (cC (.int 0)))))) (cEnd)
noncomputable def m_is_upper : List D → Mem → Res D := runF 1 1 b_is_upper_
abbrev s_rounds : Stmt := topS 17
def N_rounds : List Str := ["corners", "some", "side", "place", "one"]
def P_rounds : List Str := ["corners"]
theorem sc_rounds : FnScope N_rounds P_rounds (defScope s_rounds) := ⟨rfl, rfl, rfl, by decide +kernel, rfl, by decide +kernel, by decide +kernel⟩
noncomputable def b_rounds_ : SemS := cSeq (cAsg (cL (cComp (cIter (cCall m_sides (cCons (cVar 0) (cNil)))) (tgName 2) (cYes) (cCall m_is_upper (cCons (cVar 2) (cNil))) [2])) (tgName 1)) (cSeq (cRet (cCall lenD (cCons (cL (cComp (fun ρ M => ((cCons (cVar 1) (cNil)) ρ M).bind enumS) (tgSeq (tgCons (tgName 3) (tgCons (tgName 4) (tgNil)))) (cAnd (cT (cVar 4)) (cNot (cT (c2 idxD (cVar 1) (c2 subD (cVar 3) (cC (.int 1))))))) (cVar 3) [3, 4])) (cNil)))) (cEnd))
noncomputable def m_rounds : List D → Mem → Res D := runF 1 5 b_rounds_
abbrev s_polygon_error : Stmt := topS 14
def N_polygon_error : List Str := ["value", "place", "point", "bend"]
def P_polygon_error : List Str := ["value"]
theorem sc_polygon_error : FnScope N_polygon_error P_polygon_error (defScope s_polygon_error) := ⟨rfl, rfl, rfl, by decide +kernel, rfl, by decide +kernel, by decide +kernel⟩
noncomputable def b_polygon_error_ : SemS := cSeq (cIfS (cOr (cNot (cT (c1 (isiD "tuple") (cVar 0)))) (cNot (cT (cChain leD leD (cC (.int 3)) (cCall lenD (cCons (cVar 0) (cNil))) (cC (.int 12)))))) (cSeq (cRet (cC (.str (PySem.Str.ofString "form")))) (cEnd)) (cEnd)) (cSeq (cFor (fun ρ M => ((cCons (cVar 0) (cNil)) ρ M).bind enumS) (tgSeq (tgCons (tgName 1) (tgCons (tgName 2) (tgNil)))) (cSeq (cIfS (cNot (cT (cCallD m_is_point [.int (1000000)] (cCons (cVar 2) (cNil))))) (cSeq (cRet (cTup (cCons (cC (.str (PySem.Str.ofString "point"))) (cCons (cVar 1) (cNil))))) (cEnd)) (cEnd)) (cEnd))) (cSeq (cAsg (cCall m_first_bend (cCons (cVar 0) (cNil))) (tgName 3)) (cSeq (cIfS (cT (c1 notN (cVar 3))) (cSeq (cRet (cTup (cCons (cC (.str (PySem.Str.ofString "bend"))) (cCons (cVar 3) (cNil))))) (cEnd)) (cEnd)) (cSeq (cIfS (cT (c2 neD (cCall m_rounds (cCons (cVar 0) (cNil))) (cC (.int 1)))) (cSeq (cRet (cC (.str (PySem.Str.ofString "round")))) (cEnd)) (cEnd)) (cSeq (cRet (cIf (cT (c2 eqD (c2 idxD (cVar 0) (cC (.int 0))) (cCall minTD (cCons (cVar 0) (cNil))))) (cC .non) (cC (.str (PySem.Str.ofString "first"))))) (cEnd))))))
noncomputable def m_polygon_error : List D → Mem → Res D := runF 1 4 b_polygon_error_
abbrev s_is_item : Stmt := topS 22
def N_is_item : List Str := ["sort", "value"]
def P_is_item : List Str := ["sort", "value"]
theorem sc_is_item : FnScope N_is_item P_is_item (defScope s_is_item) := ⟨rfl, rfl, rfl, by decide +kernel, rfl, by decide +kernel, by decide +kernel⟩
noncomputable def b_is_item_ : SemS := cSeq (cIfS (cT (c2 eqD (cVar 0) (cC (.str (PySem.Str.ofString "name"))))) (cSeq (cRet (cCall m_is_name (cCons (cVar 1) (cNil)))) (cEnd)) (cEnd)) (cSeq (cIfS (cT (c2 eqD (cVar 0) (cC (.str (PySem.Str.ofString "polygon"))))) (cSeq (cRet (c1 isN (cCall m_polygon_error (cCons (cVar 1) (cNil))))) (cEnd)) (cEnd)) (cSeq (cIfS (cT (c2 eqD (cVar 0) (cC (.str (PySem.Str.ofString "frame"))))) (cSeq (cRet (c1 isN (cCall m_frame_error (cCons (cVar 1) (cNil))))) (cEnd)) (cEnd)) (cSeq (cIfS (cT (c2 eqD (cVar 0) (cC (.str (PySem.Str.ofString "point"))))) (cSeq (cRet (cCallD m_is_point [.int (1000000)] (cCons (cVar 1) (cNil)))) (cEnd)) (cEnd)) (cSeq (cRet (cIf (cT (c2 eqD (cVar 0) (cC (.str (PySem.Str.ofString "corner"))))) (cCall m_is_within (cCons (cVar 1) (cCons (cC (.int 0)) (cCons (c2 subD (cC (.int 12)) (cC (.int 1))) (cNil))))) (cCall m_is_within (cCons (cVar 1) (cCons (cC (.int 1)) (cCons (cC (.int 100)) (cNil))))))) (cEnd)))))
noncomputable def m_is_item : List D → Mem → Res D := runF 2 2 b_is_item_
abbrev s_edit_error : Stmt := topS 23
def N_edit_error : List Str := ["value", "sorts", "place", "sort"]
def P_edit_error : List Str := ["value"]
theorem sc_edit_error : FnScope N_edit_error P_edit_error (defScope s_edit_error) := ⟨rfl, rfl, rfl, by decide +kernel, rfl, by decide +kernel, by decide +kernel⟩
noncomputable def b_edit_error_ : SemS := cSeq (cIfS (cOr (cNot (cT (c1 (isiD "tuple") (cVar 0)))) (cOr (cT (c2 eqD (cVar 0) (cTup (cNil)))) (cNot (cT (c1 (isiD "str") (c2 idxD (cVar 0) (cC (.int 0)))))))) (cSeq (cRet (cC (.str (PySem.Str.ofString "form")))) (cEnd)) (cEnd)) (cSeq (cIfS (cT (c1 (tabNotInD t_SORTS) (c2 idxD (cVar 0) (cC (.int 0))))) (cSeq (cRet (cC (.str (PySem.Str.ofString "word")))) (cEnd)) (cEnd)) (cSeq (cAsg (c1 (tabD t_SORTS) (c2 idxD (cVar 0) (cC (.int 0)))) (tgName 1)) (cSeq (cIfS (cT (c2 neD (cCall lenD (cCons (cVar 0) (cNil))) (c2 addD (cCall lenD (cCons (cVar 1) (cNil))) (cC (.int 1))))) (cSeq (cRet (cC (.str (PySem.Str.ofString "many")))) (cEnd)) (cEnd)) (cSeq (cFor (fun ρ M => ((cCons (cVar 1) (cNil)) ρ M).bind enumS) (tgSeq (tgCons (tgName 2) (tgCons (tgName 3) (tgNil)))) (cSeq (cIfS (cNot (cT (cCall m_is_item (cCons (cVar 3) (cCons (c2 idxD (cVar 0) (c2 addD (cVar 2) (cC (.int 1)))) (cNil)))))) (cSeq (cRet (cTup (cCons (cC (.str (PySem.Str.ofString "item"))) (cCons (c2 addD (cVar 2) (cC (.int 1))) (cNil))))) (cEnd)) (cEnd)) (cEnd))) (cSeq (cRet (cC .non)) (cEnd))))))
noncomputable def m_edit_error : List D → Mem → Res D := runF 1 4 b_edit_error_
abbrev s__law_is_right : Stmt := topS 45
def N__law_is_right : List Str := ["value", "kept", "due"]
def P__law_is_right : List Str := ["value"]
theorem sc__law_is_right : FnScope N__law_is_right P__law_is_right (defScope s__law_is_right) := ⟨rfl, rfl, rfl, by decide +kernel, rfl, by decide +kernel, by decide +kernel⟩
noncomputable def b__law_is_right_ : SemS := cSeq (cPar 1 2 (cCons (cCall reprD (cCons (cVar 0) (cNil))) (cCons (cCall m__law_edit_fault (cCons (cVar 0) (cNil))) (cNil)))) (cSeq (cRet (cAndV (c2 eqD (cCall reprD (cCons (cL (cLst (cCons (cCall m_edit_error (cCons (cVar 0) (cNil))) (cCons (cCallP m_edit_error [0] 0 1 cNil (cCons (cVar 0) (cNil))) (cNil))))) (cNil))) (cCall reprD (cCons (cL (cLst (cCons (cVar 2) (cCons (cVar 2) (cNil))))) (cNil)))) (c2 eqD (cCall reprD (cCons (cVar 0) (cNil))) (cVar 1)))) (cEnd))
noncomputable def m__law_is_right : List D → Mem → Res D := runF 1 3 b__law_is_right_
abbrev s__law_odd_edit : Stmt := topS 44
def N__law_odd_edit : List Str := ["deck", "edit", "k", "away", "value", "some"]
def P__law_odd_edit : List Str := ["deck", "edit"]
theorem sc__law_odd_edit : FnScope N__law_odd_edit P__law_odd_edit (defScope s__law_odd_edit) := ⟨rfl, rfl, rfl, by decide +kernel, rfl, by decide +kernel, by decide +kernel⟩
noncomputable def b__law_odd_edit_ : SemS := cSeq (cAsg (cCall m__law_next (cCons (cVar 0) (cCons (cCall lenD (cCons (cVar 1) (cNil))) (cNil)))) (tgName 2)) (cSeq (cAsg (cL (cLst (cCons (cC .non) (cCons (cC (.bl true)) (cCons (cC (.bl false)) (cCons (cC (.str (PySem.Str.ofString ""))) (cCons (cC (.str (PySem.Str.ofString "none"))) (cCons (cC (.str (PySem.Str.ofString "Lamp"))) (cCons (cC (.str (PySem.Str.ofString "ninesigns"))) (cCons (cC (.str (PySem.Str.ofString "a b"))) (cCons (cC (.int 0)) (cCons (cC (.int 1)) (cCons (c1 negD (cC (.int 1))) (cCons (cC (.int 11)) (cCons (cC (.int 12)) (cCons (cC (.int 100)) (cCons (cC (.int 101)) (cCons (cTup (cCons (cC (.int 0)) (cCons (cC (.int 0)) (cNil)))) (cNil))))))))))))))))))) (tgName 3)) (cSeq (cAsg (cL (cCatN (cVar 3) (cL (cLst (cCons (cTup (cCons (cC (.int 0)) (cCons (cC (.bl true)) (cNil)))) (cCons (cTup (cNil)) (cNil))))))) (tgName 3)) (cSeq (cAsg (cL (cCatN (cVar 3) (cL (cLst (cCons (cL (cLst (cCons (cC (.int 0)) (cCons (cC (.int 0)) (cNil))))) (cCons (cTup (cCons (cC (.int 0)) (cCons (cC (.int 1000001)) (cNil)))) (cCons (cTup (cCons (cC (.int 1)) (cCons (cC (.int 0)) (cCons (cC (.int 0)) (cCons (cC (.int 1)) (cCons (cC (.int 0)) (cCons (cC (.int 0)) (cNil)))))))) (cCons (cTup (cCons (cC (.int 1)) (cCons (cC (.int 0)) (cCons (cC (.int 0)) (cCons (cC (.int 1)) (cCons (cC (.int 0)) (cNil))))))) (cCons (cTup (cCons (cC (.int 2)) (cCons (cC (.int 0)) (cCons (cC (.int 0)) (cCons (cC (.int 1)) (cCons (cC (.int 0)) (cCons (cC (.int 0)) (cNil)))))))) (cNil)))))))))) (tgName 3)) (cSeq (cAsg (cL (cCatN (cVar 3) (cL (cLst (cCons (cTup (cCons (cC (.int 1)) (cCons (cC (.int 0)) (cCons (cC (.int 0)) (cCons (cC (.int 1)) (cCons (cC (.int 0)) (cCons (cC (.int 1000001)) (cNil)))))))) (cNil)))))) (tgName 3)) (cSeq (cAsg (cL (cCatN (cVar 3) (cL (cLst (cCons (cTup (cCons (cTup (cCons (cC (.int 0)) (cCons (cC (.int 0)) (cNil)))) (cCons (cTup (cCons (cC (.int 1)) (cCons (cC (.int 0)) (cNil)))) (cCons (cTup (cCons (cC (.int 0)) (cCons (cC (.int 1)) (cNil)))) (cNil))))) (cCons (cTup (cCons (cTup (cCons (cC (.int 0)) (cCons (cC (.int 0)) (cNil)))) (cCons (cTup (cCons (cC (.int 1)) (cCons (cC (.int 0)) (cNil)))) (cNil)))) (cCons (cTup (cCons (cTup (cCons (cC (.int 0)) (cCons (cC (.int 0)) (cNil)))) (cCons (cTup (cCons (cC (.int 0)) (cCons (cC (.int 1)) (cNil)))) (cCons (cTup (cCons (cC (.int 1)) (cCons (cC (.int 0)) (cNil)))) (cNil))))) (cCons (cL (cLst (cCons (cTup (cCons (cC (.int 0)) (cCons (cC (.int 0)) (cNil)))) (cCons (cTup (cCons (cC (.int 1)) (cCons (cC (.int 0)) (cNil)))) (cCons (cTup (cCons (cC (.int 0)) (cCons (cC (.int 1)) (cNil)))) (cNil)))))) (cNil))))))))) (tgName 3)) (cSeq (cAsg (cL (cCatN (cVar 3) (cL (cLst (cCons (cC (.str (PySem.Str.ofString "put"))) (cNil)))))) (tgName 3)) (cSeq (cAsg (cL (cCatN (cVar 3) (cL (cLst (cCons (cC (.str (PySem.Str.ofString "sum"))) (cCons (cC (.str (PySem.Str.ofString "times"))) (cCons (cC (.str (PySem.Str.ofString "less"))) (cCons (cC (.str (PySem.Str.ofString "more"))) (cCons (cC (.str (PySem.Str.ofString "undo"))) (cCons (cC (.str (PySem.Str.ofString "Put"))) (cCons (cTup (cCons (cC (.int 1)) (cCons (cC (.int 0)) (cCons (cC (.int 0)) (cCons (c1 negD (cC (.int 1))) (cCons (cC (.int 5)) (cCons (c1 negD (cC (.int 5))) (cNil)))))))) (cCons (c2 powD (cC (.int 10)) (cC (.int 30))) (cCons (cC (.str (PySem.Str.ofString "1"))) (cCons (cC (.dic [] [])) (cNil))))))))))))))) (tgName 3)) (cSeq (cAsg (c2 addD (c2 addD (cSl (cVar 1) (cNoP) (cPart (cVar 2))) (cTup (cCons (cCall m__law_pick (cCons (cVar 0) (cCons (cVar 3) (cNil)))) (cNil)))) (cSl (cVar 1) (cPart (c2 addD (cVar 2) (cC (.int 1)))) (cNoP))) (tgName 4)) (cSeq (cAsg (cL (cLst (cCons (cVar 4) (cCons (cVar 4) (cCons (cVar 4) (cCons (cVar 4) (cCons (cL (cCallN listD (cCons (cVar 1) (cNil)))) (cCons (c2 addD (cVar 1) (cSl (cVar 1) (cPart (c1 negD (cC (.int 1)))) (cNoP))) (cCons (cSl (cVar 1) (cNoP) (cPart (c1 negD (cC (.int 1))))) (cCons (c1 revD (cVar 1)) (cCons (cTup (cNil)) (cCons (cC .non) (cCons (c2 idxD (cVar 1) (cC (.int 0))) (cNil)))))))))))))) (tgName 5)) (cSeq (cAsg (cL (cCatN (cVar 5) (cL (cLst (cCons (cTup (cCons (cVar 1) (cNil))) (cNil)))))) (tgName 5)) (cSeq (cRet (cCall m__law_pick (cCons (cVar 0) (cCons (cVar 5) (cNil))))) (cEnd))))))))))))
noncomputable def m__law_odd_edit : List D → Mem → Res D := runF 2 6 b__law_odd_edit_
abbrev s_law : Stmt := topS 47
def N_law : List Str := ["script", "deck", "shelf", "turn", "edit", "value", "again"]
def P_law : List Str := ["script"]
theorem sc_law : FnScope N_law P_law (defScope s_law) := ⟨rfl, rfl, rfl, by decide +kernel, rfl, by decide +kernel, by decide +kernel⟩
noncomputable def b_law_ : SemS := cSeq (cAsg (cCall m__law_deck (cCons (cVar 0) (cNil))) (tgName 1)) (cSeq (cAsg (cDisp (cPcons (.inr (PySem.Str.ofString "tent")) (cTup (cCons (cTup (cCons (cC (.int 0)) (cCons (cC (.int 0)) (cNil)))) (cCons (cTup (cCons (cC (.int 2)) (cCons (cC (.int 0)) (cNil)))) (cCons (cTup (cCons (cC (.int 0)) (cCons (cC (.int 2)) (cNil)))) (cNil))))) (cPcons (.inr (PySem.Str.ofString "coin")) (cTup (cCons (cTup (cCons (c1 negD (cC (.int 1))) (cCons (cC (.int 0)) (cNil)))) (cCons (cTup (cCons (cC (.int 0)) (cCons (c1 negD (cC (.int 1))) (cNil)))) (cCons (cTup (cCons (cC (.int 1)) (cCons (cC (.int 0)) (cNil)))) (cCons (cTup (cCons (cC (.int 0)) (cCons (cC (.int 1)) (cNil)))) (cNil)))))) (cPnil)))) (tgName 2)) (cSeq (cFor (fun ρ M => ((cCons (cC (.int 12)) (cNil)) ρ M).bind rng1) (tgName 3) (cSeq (cAsg (cCall m__law_edit (cCons (cVar 1) (cCons (cVar 2) (cNil)))) (tgName 4)) (cSeq (cFor (cIter (cL (cCatN (cL (cLst (cCons (cVar 4) (cNil)))) (cL (cComp (fun ρ M => ((cCons (cC (.int 5)) (cNil)) ρ M).bind rng1) (tgName 6) (cYes) (cCall m__law_odd_edit (cCons (cVar 1) (cCons (cVar 4) (cNil)))) [6]))))) (tgName 5) (cSeq (cIfS (cNot (cT (cCall m__law_is_right (cCons (cVar 5) (cNil))))) (cSeq (cRet (cC (.bl false))) (cEnd)) (cEnd)) (cEnd))) (cEnd)))) (cSeq (cFor (cIter (cCall m__law_bounds (cCons (cVar 1) (cNil)))) (tgName 5) (cSeq (cIfS (cNot (cT (cCall m__law_is_right (cCons (cVar 5) (cNil))))) (cSeq (cRet (cC (.bl false))) (cEnd)) (cEnd)) (cEnd))) (cSeq (cRet (cAndV (c1 isN (cCall m__law_edit_fault (cCons (cTup (cCons (cC (.str (PySem.Str.ofString "put"))) (cCons (cC (.str (PySem.Str.ofString "a"))) (cCons (c2 dgetD (cVar 2) (cC (.str (PySem.Str.ofString "tent")))) (cNil))))) (cNil)))) (cCall m__law_is_right (cCons (cTup (cCons (cC (.str (PySem.Str.ofString "put"))) (cCons (cC (.str (PySem.Str.ofString "a"))) (cCons (c2 dgetD (cVar 2) (cC (.str (PySem.Str.ofString "tent")))) (cNil))))) (cNil))))) (cEnd)))))
noncomputable def m_law : List D → Mem → Res D := runF 1 7 b_law_
section
variable {P : Program} {w : World} {K : PySem.W.Frag} {mg : Str → Option Value} {base : Heap}
theorem ok__law_next  {f : Addr} {fd : FuncData} (F : FunD K "_law_next" "_law_next" (defArgs s__law_next) (defBody s__law_next) (defScope s__law_next) [] [] f fd) (hm : mg "_law_next" = some (.ref f)) (z_int : mg "int" = none) : FnG P w K mg base "_law_next" f fd P__law_next 1 m__law_next := by
  refine fn_okD F sc__law_next hm fun cdv A outer s H E C => ?_
  have hc := C.calm; have hp := own_of (P := P) (w := w) (K := K) (mg := mg) (base := base) (N := N__law_next) (qual := "_law_next") (scope := defScope s__law_next) (f := f) (cd := cdv) (A := A) (outer := outer) (s := s) (H := H) (E := E)
  exact xss_cons (xs_if (xt_cmp (os_lt) (xe_var (pv 1)) (xe_int)) (xss_cons (xs_ret (xe_int)) (xss_nil)) (xss_nil)) (xss_cons (xs_if (xt_cmp (os_ne C.u64) (xe_dget C.u1 (xe_var (pv 0)) (xe_str) (by first | trivial | rfl | intro _ _; rfl)) (XN.lst (xn_lst (xa_nil)))) (xss_cons (xs_asg (xe_pop (xe_dget C.u1 (xe_var (pv 0)) (xe_str) (by first | trivial | rfl | intro _ _; rfl))) (xg_name (pg_name (i := 2) sc__law_next.nd rfl (.inl rfl)))) (xss_cons (xs_if (xt_cmp (os_ge) (xe_var (pv 2)) (xe_var (pv 1))) (xss_cons (xs_do (xe_append (xe_dget C.u1 (xe_var (pv 0)) (xe_str) (by first | trivial | rfl | intro _ _; rfl)) (xe_op os_fdiv (xe_var (pv 2)) (xe_var (pv 1))))) (xss_nil)) (xss_nil)) (xss_cons (xs_ret (xe_op os_mod (xe_callTy (cs_int) (by rfl) z_int (by rfl) (xa_cons (xe_var (pv 2)) (xa_nil))) (xe_var (pv 1)))) (xss_nil)))) (xss_nil)) (xss_cons (xs_dput C.u1 (xe_var (pv 0)) (xe_str) (xe_op os_add (xe_dget C.u1 (xe_var (pv 0)) (xe_str) (by first | trivial | rfl | intro _ _; rfl)) (xe_int))) (xss_cons (xs_asg (xe_op os_mod (xe_callTy (cs_int) (by rfl) z_int (by rfl) (xa_cons (xe_op os_add (xe_dget C.u1 (xe_var (pv 0)) (xe_str) (by first | trivial | rfl | intro _ _; rfl)) (xe_op os_mul (xe_dget C.u1 (xe_var (pv 0)) (xe_str) (by first | trivial | rfl | intro _ _; rfl)) (xe_int))) (xa_nil))) (xe_int)) (xg_name (pg_name (i := 3) sc__law_next.nd rfl (.inl rfl)))) (xss_cons (xs_asg (xe_op os_mod (xe_callTy (cs_int) (by rfl) z_int (by rfl) (xa_cons (xe_op os_add (xe_op os_add (xe_op os_mul (xe_var (pv 3)) (xe_var (pv 3))) (xe_op os_mul (xe_dget C.u1 (xe_var (pv 0)) (xe_str) (by first | trivial | rfl | intro _ _; rfl)) (xe_int))) (xe_int)) (xa_nil))) (xe_int)) (xg_name (pg_name (i := 3) sc__law_next.nd rfl (.inl rfl)))) (xss_cons (xs_asg (xe_op os_mod (xe_callTy (cs_int) (by rfl) z_int (by rfl) (xa_cons (xe_op os_add (xe_op os_mul (xe_var (pv 3)) (xe_var (pv 3))) (xe_dget C.u1 (xe_var (pv 0)) (xe_str) (by first | trivial | rfl | intro _ _; rfl))) (xa_nil))) (xe_int)) (xg_name (pg_name (i := 3) sc__law_next.nd rfl (.inl rfl)))) (xss_cons (xs_ret (xe_op os_mod (xe_callTy (cs_int) (by rfl) z_int (by rfl) (xa_cons (xe_op os_fdiv (xe_var (pv 3)) (xe_int)) (xa_nil))) (xe_var (pv 1)))) (xss_nil)))))))
theorem ok__law_pick {f__law_next : Addr} {fd__law_next : FuncData} {f : Addr} {fd : FuncData} (F : FunD K "_law_pick" "_law_pick" (defArgs s__law_pick) (defBody s__law_pick) (defScope s__law_pick) [] [] f fd) (hm : mg "_law_pick" = some (.ref f)) (z_len : mg "len" = none) (F__law_next : FnG P w K mg base "_law_next" f__law_next fd__law_next P__law_next 1 m__law_next) (b__law_next : L2.Binds K fd__law_next P__law_next []) : FnG P w K mg base "_law_pick" f fd P__law_pick 2 m__law_pick := by
  refine fn_okD F sc__law_pick hm fun cdv A outer s H E C => ?_
  have hc := C.calm; have hp := own_of (P := P) (w := w) (K := K) (mg := mg) (base := base) (N := N__law_pick) (qual := "_law_pick") (scope := defScope s__law_pick) (f := f) (cd := cdv) (A := A) (outer := outer) (s := s) (H := H) (E := E)
  exact xss_cons (xs_ret (xe_ix (xe_var (pv 1)) (xe_call F__law_next b__law_next C (by decide) (by rfl) (xa_cons (xe_var (pv 0)) (xa_cons (xe_callB (cs_len) (by rfl) z_len (by rfl) (xa_cons (xe_var (pv 1)) (xa_nil))) (xa_nil)))) (fun _ _ => rfl))) (xss_nil)
theorem ok__law_bounds {f__law_next : Addr} {fd__law_next : FuncData} {f__law_pick : Addr} {fd__law_pick : FuncData} {f : Addr} {fd : FuncData} (F : FunD K "_law_bounds" "_law_bounds" (defArgs s__law_bounds) (defBody s__law_bounds) (defScope s__law_bounds) [] [] f fd) (hm : mg "_law_bounds" = some (.ref f)) (F__law_next : FnG P w K mg base "_law_next" f__law_next fd__law_next P__law_next 1 m__law_next) (b__law_next : L2.Binds K fd__law_next P__law_next []) (F__law_pick : FnG P w K mg base "_law_pick" f__law_pick fd__law_pick P__law_pick 2 m__law_pick) (b__law_pick : L2.Binds K fd__law_pick P__law_pick []) : FnG P w K mg base "_law_bounds" f fd P__law_bounds 3 m__law_bounds := by
  refine fn_okD F sc__law_bounds hm fun cdv A outer s H E C => ?_
  have hc := C.calm; have hp := own_of (P := P) (w := w) (K := K) (mg := mg) (base := base) (N := N__law_bounds) (qual := "_law_bounds") (scope := defScope s__law_bounds) (f := f) (cd := cdv) (A := A) (outer := outer) (s := s) (H := H) (E := E)
  exact xss_cons (xs_asg (xe_slice (xe_str) (xo_none) (xo_some (xe_op os_add (xe_int) (xe_call F__law_next b__law_next C (by decide) (by rfl) (xa_cons (xe_var (pv 0)) (xa_cons (xe_int) (xa_nil))))))) (xg_name (pg_name (i := 1) sc__law_bounds.nd rfl (.inl rfl)))) (xss_cons (xs_asg (xe_call F__law_pick b__law_pick C (by decide) (by rfl) (xa_cons (xe_var (pv 0)) (xa_cons (XN.lst (xn_lst (xa_cons (xe_int) (xa_cons (xe_int) (xa_cons (xe_neg (xe_int)) (xa_cons (xe_neg (xe_int)) (xa_nil))))))) (xa_nil)))) (xg_name (pg_name (i := 2) sc__law_bounds.nd rfl (.inl rfl)))) (xss_cons (xs_asg (XN.lst (xn_lst (xa_cons (xe_tup (xa_cons (xe_str) (xa_cons (xe_var (pv 1)) (xa_cons (xe_int) (xa_nil))))) (xa_cons (xe_tup (xa_cons (xe_str) (xa_cons (xe_var (pv 1)) (xa_cons (xe_int) (xa_nil))))) (xa_cons (xe_tup (xa_cons (xe_str) (xa_cons (xe_var (pv 1)) (xa_cons (xe_neg (xe_int)) (xa_nil))))) (xa_cons (xe_tup (xa_cons (xe_str) (xa_cons (xe_var (pv 1)) (xa_cons (xe_int) (xa_nil))))) (xa_cons (xe_tup (xa_cons (xe_str) (xa_cons (xe_var (pv 1)) (xa_cons (xe_int) (xa_nil))))) (xa_nil)))))))) (xg_name (pg_name (i := 3) sc__law_bounds.nd rfl (.inl rfl)))) (xss_cons (xs_asg (XN.lst (xn_cat (xe_var (pv 3)) (XN.lst (xn_lst (xa_cons (xe_tup (xa_cons (xe_str) (xa_cons (xe_var (pv 1)) (xa_cons (xe_int) (xa_nil))))) (xa_cons (xe_tup (xa_cons (xe_str) (xa_cons (xe_var (pv 1)) (xa_cons (xe_bl) (xa_nil))))) (xa_cons (xe_tup (xa_cons (xe_str) (xa_cons (xe_op os_add (xe_var (pv 1)) (xe_str)) (xa_nil)))) (xa_cons (xe_tup (xa_cons (xe_str) (xa_cons (xe_str) (xa_nil)))) (xa_nil))))))))) (xg_name (pg_name (i := 3) sc__law_bounds.nd rfl (.inl rfl)))) (xss_cons (xs_asg (XN.lst (xn_cat (xe_var (pv 3)) (XN.lst (xn_lst (xa_cons (xe_tup (xa_cons (xe_str) (xa_cons (xe_str) (xa_nil)))) (xa_nil)))))) (xg_name (pg_name (i := 3) sc__law_bounds.nd rfl (.inl rfl)))) (xss_cons (xs_asg (XN.lst (xn_cat (xe_var (pv 3)) (XN.lst (xn_lst (xa_cons (xe_tup (xa_cons (xe_str) (xa_cons (xe_var (pv 1)) (xa_cons (xe_tup (xa_cons (xe_var (pv 2)) (xa_cons (xe_int) (xa_nil)))) (xa_nil))))) (xa_cons (xe_tup (xa_cons (xe_str) (xa_cons (xe_var (pv 1)) (xa_cons (xe_tup (xa_cons (xe_int) (xa_cons (xe_var (pv 2)) (xa_nil)))) (xa_nil))))) (xa_cons (xe_tup (xa_cons (xe_str) (xa_cons (xe_var (pv 1)) (xa_cons (xe_tup (xa_cons (xe_int) (xa_cons (xe_var (pv 2)) (xa_cons (xe_int) (xa_cons (xe_int) (xa_cons (xe_int) (xa_cons (xe_int) (xa_nil)))))))) (xa_nil))))) (xa_nil)))))))) (xg_name (pg_name (i := 3) sc__law_bounds.nd rfl (.inl rfl)))) (xss_cons (xs_asg (XN.lst (xn_cat (xe_var (pv 3)) (XN.lst (xn_lst (xa_cons (xe_tup (xa_cons (xe_str) (xa_cons (xe_var (pv 1)) (xa_cons (xe_tup (xa_cons (xe_int) (xa_cons (xe_int) (xa_cons (xe_int) (xa_cons (xe_int) (xa_cons (xe_int) (xa_cons (xe_var (pv 2)) (xa_nil)))))))) (xa_nil))))) (xa_cons (xe_tup (xa_cons (xe_str) (xa_cons (xe_var (pv 1)) (xa_cons (xe_tup (xa_cons (xe_tup (xa_cons (xe_int) (xa_cons (xe_int) (xa_nil)))) (xa_cons (xe_tup (xa_cons (xe_var (pv 2)) (xa_cons (xe_int) (xa_nil)))) (xa_cons (xe_tup (xa_cons (xe_int) (xa_cons (xe_int) (xa_nil)))) (xa_nil))))) (xa_nil))))) (xa_nil))))))) (xg_name (pg_name (i := 3) sc__law_bounds.nd rfl (.inl rfl)))) (xss_cons (xs_asg (XN.lst (xn_cat (xe_var (pv 3)) (XN.lst (xn_lst (xa_cons (xe_tup (xa_cons (xe_str) (xa_cons (xe_var (pv 1)) (xa_cons (xe_var (pv 1)) (xa_nil))))) (xa_cons (xe_tup (xa_cons (xe_str) (xa_cons (xe_var (pv 1)) (xa_cons (xe_var (pv 1)) (xa_nil))))) (xa_cons (xe_tup (xa_cons (xe_str) (xa_cons (xe_str) (xa_cons (xe_var (pv 1)) (xa_nil))))) (xa_cons (xe_tup (xa_cons (xe_str) (xa_cons (xe_var (pv 1)) (xa_cons (xe_str) (xa_nil))))) (xa_nil))))))))) (xg_name (pg_name (i := 3) sc__law_bounds.nd rfl (.inl rfl)))) (xss_cons (xs_asg (XN.lst (xn_cat (xe_var (pv 3)) (XN.lst (xn_lst (xa_cons (xe_tup (xa_cons (xe_str) (xa_nil))) (xa_nil)))))) (xg_name (pg_name (i := 3) sc__law_bounds.nd rfl (.inl rfl)))) (xss_cons (xs_ret (XN.lst (xn_cat (xe_var (pv 3)) (XN.lst (xn_lst (xa_cons (xe_tup (xa_cons (xe_str) (xa_cons (xe_var (pv 1)) (xa_cons (xe_tup (xa_cons (xe_tup (xa_cons (xe_neg (xe_var (pv 2))) (xa_cons (xe_int) (xa_nil)))) (xa_cons (xe_tup (xa_cons (xe_int) (xa_cons (xe_neg (xe_int)) (xa_nil)))) (xa_cons (xe_tup (xa_cons (xe_int) (xa_cons (xe_int) (xa_nil)))) (xa_nil))))) (xa_nil))))) (xa_cons (xe_tup (xa_cons (xe_str) (xa_cons (xe_var (pv 1)) (xa_nil)))) (xa_cons (xe_tup (xa_cons (xe_str) (xa_cons (xe_var (pv 1)) (xa_cons (xe_var (pv 1)) (xa_nil))))) (xa_cons (xe_tup (xa_cons (xe_var (pv 1)) (xa_cons (xe_var (pv 1)) (xa_nil)))) (xa_nil)))))))))) (xss_nil))))))))))
theorem ok__law_deck  {f : Addr} {fd : FuncData} (F : FunD K "_law_deck" "_law_deck" (defArgs s__law_deck) (defBody s__law_deck) (defScope s__law_deck) [] [] f fd) (hm : mg "_law_deck" = some (.ref f)) (z_abs : mg "abs" = none) (z_int : mg "int" = none) (z_len : mg "len" = none) : FnG P w K mg base "_law_deck" f fd P__law_deck 1 m__law_deck := by
  refine fn_okD F sc__law_deck hm fun cdv A outer s H E C => ?_
  have hc := C.calm; have hp := own_of (P := P) (w := w) (K := K) (mg := mg) (base := base) (N := N__law_deck) (qual := "_law_deck") (scope := defScope s__law_deck) (f := f) (cd := cdv) (A := A) (outer := outer) (s := s) (H := H) (E := E)
  exact xss_cons (xs_par (i := 1) (j := 2) hc sc__law_deck.nd rfl rfl (by decide) rfl rfl (xa_cons (xe_op os_add (xe_int) (xe_op os_mul (xe_int) (xe_callB (cs_len) (by rfl) z_len (by rfl) (xa_cons (xe_slice (xe_var (pv 0)) (xo_none) (xo_some (xe_int))) (xa_nil))))) (xa_cons (XN.ref (xn_lst (xa_nil))) (xa_nil)))) (xss_cons (xs_for hp hc (xi_val (xe_slice (xe_var (pv 0)) (xo_none) (xo_some (xe_int)))) (xg_name (pg_name (i := 3) sc__law_deck.nd rfl (.inl rfl))) (xss_cons (xs_asg (xe_op os_add (xe_op os_mul (xe_int) (xe_callB (cs_abs) (by rfl) z_abs (by rfl) (xa_cons (xe_var (pv 3)) (xa_nil)))) (xe_callTy (cs_int) (by rfl) z_int (by rfl) (xa_cons (xe_cmp (os_lt) (xe_var (pv 3)) (xe_int)) (xa_nil)))) (xg_name (pg_name (i := 4) sc__law_deck.nd rfl (.inl rfl)))) (xss_cons (xs_asg (xe_op os_mod (xe_callTy (cs_int) (by rfl) z_int (by rfl) (xa_cons (xe_op os_add (xe_op os_add (xe_op os_mul (xe_var (pv 1)) (xe_int)) (xe_var (pv 4))) (xe_int)) (xa_nil))) (xe_int)) (xg_name (pg_name (i := 1) sc__law_deck.nd rfl (.inl rfl)))) (xss_cons (xs_if (xt_cmp (os_ge) (xe_var (pv 4)) (xe_op os_pow (xe_int) (xe_int))) (xss_cons (xs_do (xe_append (xe_var (pv 2)) (xe_var (pv 4)))) (xss_nil)) (xss_nil)) (xss_nil))))) (xss_cons (xs_ret (xe_disp (xp_cons (key := (.inr (PySem.Str.ofString "great"))) pe_str (xe_var (pv 2)) (xp_cons (key := (.inr (PySem.Str.ofString "mixed"))) pe_str (xe_var (pv 1)) (xp_cons (key := (.inr (PySem.Str.ofString "turn"))) pe_str (xe_int) (xp_nil)))))) (xss_nil)))
theorem ok__law_frame {f__law_next : Addr} {fd__law_next : FuncData} {f : Addr} {fd : FuncData} (F : FunD K "_law_frame" "_law_frame" (defArgs s__law_frame) (defBody s__law_frame) (defScope s__law_frame) [] [] f fd) (hm : mg "_law_frame" = some (.ref f)) (z_range : mg "range" = none) (F__law_next : FnG P w K mg base "_law_next" f__law_next fd__law_next P__law_next 1 m__law_next) (b__law_next : L2.Binds K fd__law_next P__law_next []) : FnG P w K mg base "_law_frame" f fd P__law_frame 2 m__law_frame := by
  refine fn_okD F sc__law_frame hm fun cdv A outer s H E C => ?_
  have hc := C.calm; have hp := own_of (P := P) (w := w) (K := K) (mg := mg) (base := base) (N := N__law_frame) (qual := "_law_frame") (scope := defScope s__law_frame) (f := f) (cd := cdv) (A := A) (outer := outer) (s := s) (H := H) (E := E)
  exact xss_cons (xs_asg (xe_tup (xa_cons (xe_int) (xa_cons (xe_int) (xa_cons (xe_int) (xa_cons (xe_int) (xa_nil)))))) (xg_seq hc (xgs_cons (xg_name (pg_name (i := 3) sc__law_frame.nd rfl (.inl rfl))) (xgs_cons (xg_name (pg_name (i := 4) sc__law_frame.nd rfl (.inl rfl))) (xgs_cons (xg_name (pg_name (i := 5) sc__law_frame.nd rfl (.inl rfl))) (xgs_cons (xg_name (pg_name (i := 6) sc__law_frame.nd rfl (.inl rfl))) (xgs_nil))))) (hl := tgCons_len (tgCons_len (tgCons_len (tgCons_len (tgNil_len))))))) (xss_cons (xs_for hp hc (xi_range1 (by rfl) z_range (xa_cons (xe_call F__law_next b__law_next C (by decide) (by rfl) (xa_cons (xe_var (pv 0)) (xa_cons (xe_int) (xa_nil)))) (xa_nil))) (xg_name (pg_name (i := 7) sc__law_frame.nd rfl (.inl rfl))) (xss_cons (xs_asg (xe_op os_sub (xe_call F__law_next b__law_next C (by decide) (by rfl) (xa_cons (xe_var (pv 0)) (xa_cons (xe_op os_add (xe_op os_mul (xe_int) (xe_var (pv 1))) (xe_int)) (xa_nil)))) (xe_var (pv 1))) (xg_name (pg_name (i := 8) sc__law_frame.nd rfl (.inl rfl)))) (xss_cons (xs_if (xt_cmp (os_eq C.u64) (xe_call F__law_next b__law_next C (by decide) (by rfl) (xa_cons (xe_var (pv 0)) (xa_cons (xe_int) (xa_nil)))) (xe_int)) (xss_cons (xs_par (i := 3) (j := 4) hc sc__law_frame.nd rfl rfl (by decide) rfl rfl (xa_cons (xe_op os_add (xe_var (pv 3)) (xe_op os_mul (xe_var (pv 8)) (xe_var (pv 5)))) (xa_cons (xe_op os_add (xe_var (pv 4)) (xe_op os_mul (xe_var (pv 8)) (xe_var (pv 6)))) (xa_nil)))) (xss_nil)) (xss_cons (xs_par (i := 5) (j := 6) hc sc__law_frame.nd rfl rfl (by decide) rfl rfl (xa_cons (xe_op os_add (xe_var (pv 5)) (xe_op os_mul (xe_var (pv 8)) (xe_var (pv 3)))) (xa_cons (xe_op os_add (xe_var (pv 6)) (xe_op os_mul (xe_var (pv 8)) (xe_var (pv 4)))) (xa_nil)))) (xss_nil))) (xss_nil)))) (xss_cons (xs_if (xt_cmp (os_eq C.u64) (xe_call F__law_next b__law_next C (by decide) (by rfl) (xa_cons (xe_var (pv 0)) (xa_cons (xe_int) (xa_nil)))) (xe_int)) (xss_cons (xs_asg (xe_tup (xa_cons (xe_var (pv 5)) (xa_cons (xe_var (pv 6)) (xa_cons (xe_var (pv 3)) (xa_cons (xe_var (pv 4)) (xa_nil)))))) (xg_seq hc (xgs_cons (xg_name (pg_name (i := 3) sc__law_frame.nd rfl (.inl rfl))) (xgs_cons (xg_name (pg_name (i := 4) sc__law_frame.nd rfl (.inl rfl))) (xgs_cons (xg_name (pg_name (i := 5) sc__law_frame.nd rfl (.inl rfl))) (xgs_cons (xg_name (pg_name (i := 6) sc__law_frame.nd rfl (.inl rfl))) (xgs_nil))))) (hl := tgCons_len (tgCons_len (tgCons_len (tgCons_len (tgNil_len))))))) (xss_nil)) (xss_nil)) (xss_cons (xs_ret (xe_tup (xa_cons (xe_var (pv 3)) (xa_cons (xe_var (pv 4)) (xa_cons (xe_var (pv 5)) (xa_cons (xe_var (pv 6)) (xa_cons (xe_op os_sub (xe_call F__law_next b__law_next C (by decide) (by rfl) (xa_cons (xe_var (pv 0)) (xa_cons (xe_op os_add (xe_op os_mul (xe_int) (xe_var (pv 2))) (xe_int)) (xa_nil)))) (xe_var (pv 2))) (xa_cons (xe_op os_sub (xe_call F__law_next b__law_next C (by decide) (by rfl) (xa_cons (xe_var (pv 0)) (xa_cons (xe_op os_add (xe_op os_mul (xe_int) (xe_var (pv 2))) (xe_int)) (xa_nil)))) (xe_var (pv 2))) (xa_nil))))))))) (xss_nil))))
theorem ok__law_names {f__law_next : Addr} {fd__law_next : FuncData} {f__law_pick : Addr} {fd__law_pick : FuncData} {f : Addr} {fd : FuncData} (F : FunD K "_law_names" "_law_names" (defArgs s__law_names) (defBody s__law_names) (defScope s__law_names) [] [] f fd) (hm : mg "_law_names" = some (.ref f)) (z_sorted : mg "sorted" = none) (F__law_next : FnG P w K mg base "_law_next" f__law_next fd__law_next P__law_next 1 m__law_next) (b__law_next : L2.Binds K fd__law_next P__law_next []) (F__law_pick : FnG P w K mg base "_law_pick" f__law_pick fd__law_pick P__law_pick 2 m__law_pick) (b__law_pick : L2.Binds K fd__law_pick P__law_pick []) : FnG P w K mg base "_law_names" f fd P__law_names 3 m__law_names := by
  refine fn_okD F sc__law_names hm fun cdv A outer s H E C => ?_
  have hc := C.calm; have hp := own_of (P := P) (w := w) (K := K) (mg := mg) (base := base) (N := N__law_names) (qual := "_law_names") (scope := defScope s__law_names) (f := f) (cd := cdv) (A := A) (outer := outer) (s := s) (H := H) (E := E)
  exact xss_cons (xs_if (XW.xt (xw_and (xt_cmp (os_neE C.u64) (xe_var (pv 1)) xe_newDf) (xw_and1 (xt_cmp (os_gt) (xe_call F__law_next b__law_next C (by decide) (by rfl) (xa_cons (xe_var (pv 0)) (xa_cons (xe_int) (xa_nil)))) (xe_int))))) (xss_cons (xs_ret (xe_call F__law_pick b__law_pick C (by decide) (by rfl) (xa_cons (xe_var (pv 0)) (xa_cons (XN.lst (xn_callB (cn_sortK hc) (by rfl) z_sorted (by rfl) (xa_cons (xe_var (pv 1)) (xa_nil)))) (xa_nil))))) (xss_nil)) (xss_nil)) (xss_cons (xs_ret (xe_call F__law_pick b__law_pick C (by decide) (by rfl) (xa_cons (xe_var (pv 0)) (xa_cons (XN.lst (xn_lst (xa_cons (xe_str) (xa_cons (xe_str) (xa_cons (xe_str) (xa_cons (xe_str) (xa_cons (xe_str) (xa_cons (xe_str) (xa_cons (xe_str) (xa_cons (xe_str) (xa_cons (xe_str) (xa_cons (xe_str) (xa_nil))))))))))))) (xa_nil))))) (xss_nil))
theorem ok__law_det  {f : Addr} {fd : FuncData} (F : FunD K "_law_det" "_law_det" (defArgs s__law_det) (defBody s__law_det) (defScope s__law_det) [] [] f fd) (hm : mg "_law_det" = some (.ref f))  : FnG P w K mg base "_law_det" f fd P__law_det 1 m__law_det := by
  refine fn_okD F sc__law_det hm fun cdv A outer s H E C => ?_
  have hc := C.calm; have hp := own_of (P := P) (w := w) (K := K) (mg := mg) (base := base) (N := N__law_det) (qual := "_law_det") (scope := defScope s__law_det) (f := f) (cd := cdv) (A := A) (outer := outer) (s := s) (H := H) (E := E)
  exact xss_cons (xs_ret (xe_op os_sub (xe_op os_mul (xe_ix (xe_var (pv 0)) (xe_int) (fun _ _ => rfl)) (xe_ix (xe_var (pv 1)) (xe_int) (fun _ _ => rfl))) (xe_op os_mul (xe_ix (xe_var (pv 0)) (xe_int) (fun _ _ => rfl)) (xe_ix (xe_var (pv 1)) (xe_int) (fun _ _ => rfl))))) (xss_nil)
theorem ok__law_bend {f__law_det : Addr} {fd__law_det : FuncData} {f : Addr} {fd : FuncData} (F : FunD K "_law_bend" "_law_bend" (defArgs s__law_bend) (defBody s__law_bend) (defScope s__law_bend) [] [] f fd) (hm : mg "_law_bend" = some (.ref f)) (F__law_det : FnG P w K mg base "_law_det" f__law_det fd__law_det P__law_det 1 m__law_det) (b__law_det : L2.Binds K fd__law_det P__law_det []) : FnG P w K mg base "_law_bend" f fd P__law_bend 2 m__law_bend := by
  refine fn_okD F sc__law_bend hm fun cdv A outer s H E C => ?_
  have hc := C.calm; have hp := own_of (P := P) (w := w) (K := K) (mg := mg) (base := base) (N := N__law_bend) (qual := "_law_bend") (scope := defScope s__law_bend) (f := f) (cd := cdv) (A := A) (outer := outer) (s := s) (H := H) (E := E)
  exact xss_cons (xs_ret (xe_call F__law_det b__law_det C (by decide) (by rfl) (xa_cons (xe_tup (xa_cons (xe_op os_sub (xe_ix (xe_var (pv 1)) (xe_int) (fun _ _ => rfl)) (xe_ix (xe_var (pv 0)) (xe_int) (fun _ _ => rfl))) (xa_cons (xe_op os_sub (xe_ix (xe_var (pv 1)) (xe_int) (fun _ _ => rfl)) (xe_ix (xe_var (pv 0)) (xe_int) (fun _ _ => rfl))) (xa_nil)))) (xa_cons (xe_tup (xa_cons (xe_op os_sub (xe_ix (xe_var (pv 2)) (xe_int) (fun _ _ => rfl)) (xe_ix (xe_var (pv 0)) (xe_int) (fun _ _ => rfl))) (xa_cons (xe_op os_sub (xe_ix (xe_var (pv 2)) (xe_int) (fun _ _ => rfl)) (xe_ix (xe_var (pv 0)) (xe_int) (fun _ _ => rfl))) (xa_nil)))) (xa_nil))))) (xss_nil)
theorem ok__law_hull {f__law_bend : Addr} {fd__law_bend : FuncData} {f : Addr} {fd : FuncData} (F : FunD K "_law_hull" "_law_hull" (defArgs s__law_hull) (defBody s__law_hull) (defScope s__law_hull) [] [] f fd) (hm : mg "_law_hull" = some (.ref f)) (z_dict : mg "dict" = none) (z_len : mg "len" = none) (z_sorted : mg "sorted" = none) (z_tuple : mg "tuple" = none) (F__law_bend : FnG P w K mg base "_law_bend" f__law_bend fd__law_bend P__law_bend 2 m__law_bend) (b__law_bend : L2.Binds K fd__law_bend P__law_bend []) : FnG P w K mg base "_law_hull" f fd P__law_hull 3 m__law_hull := by
  refine fn_okD F sc__law_hull hm fun cdv A outer s H E C => ?_
  have hc := C.calm; have hp := own_of (P := P) (w := w) (K := K) (mg := mg) (base := base) (N := N__law_hull) (qual := "_law_hull") (scope := defScope s__law_hull) (f := f) (cd := cdv) (A := A) (outer := outer) (s := s) (H := H) (E := E)
  exact xss_cons (xs_asg (XN.lst (xn_sortDict hc C.u70 (by rfl) z_sorted (by rfl) z_dict (XN.lst (xn_comp (own := [("point", 2)]) hc sc__law_hull.nd (xi_val (xe_var (pv 0))) (blkOk_by (own := [("point", 2)]) (N := N__law_hull) (sc := defScope s__law_hull) (by decide +kernel)) (fun s1 H1 _ _ _ => xg_name (pg_name (i := 2) sc__law_hull.nd rfl (.inl rfl))) (fun s1 H1 _ _ _ => xts_nil) (fun s1 H1 _ _ _ => xe_tup (xa_cons (xe_var (pv 2)) (xa_cons (xe_bl) (xa_nil)))) (by decide))))) (xg_name (pg_name (i := 1) sc__law_hull.nd rfl (.inl rfl)))) (xss_cons (xs_asg (XN.ref (xn_lst (xa_nil))) (xg_name (pg_name (i := 3) sc__law_hull.nd rfl (.inl rfl)))) (xss_cons (xs_for hp hc (xi_val (xe_tup (xa_cons (xe_var (pv 1)) (xa_cons (xe_rev (xe_var (pv 1))) (xa_nil))))) (xg_name (pg_name (i := 4) sc__law_hull.nd rfl (.inl rfl))) (xss_cons (xs_asg (XN.ref (xn_lst (xa_nil))) (xg_name (pg_name (i := 5) sc__law_hull.nd rfl (.inl rfl)))) (xss_cons (xs_for hp hc (xi_val (xe_var (pv 4))) (xg_name (pg_name (i := 2) sc__law_hull.nd rfl (.inl rfl))) (xss_cons (xs_while hp (XW.xt (xw_and (xt_cmp (os_gt) (xe_callB (cs_len) (by rfl) z_len (by rfl) (xa_cons (xe_var (pv 5)) (xa_nil))) (xe_int)) (xw_and1 (xt_cmp (os_le) (xe_call F__law_bend b__law_bend C (by decide) (by rfl) (xa_cons (xe_ix (xe_var (pv 5)) (xe_neg (xe_int)) (fun _ _ => rfl)) (xa_cons (xe_ix (xe_var (pv 5)) (xe_neg (xe_int)) (fun _ _ => rfl)) (xa_cons (xe_var (pv 2)) (xa_nil))))) (xe_int))))) (xss_cons (xs_do (xe_pop (xe_var (pv 5)))) (xss_nil))) (xss_cons (xs_do (xe_append (xe_var (pv 5)) (xe_var (pv 2)))) (xss_nil)))) (xss_cons (xs_do (xe_append (xe_var (pv 3)) (xe_slice (xe_var (pv 5)) (xo_none) (xo_some (xe_neg (xe_int)))))) (xss_nil))))) (xss_cons (xs_ret (xe_if (xt_cmp (os_gt) (xe_callB (cs_len) (by rfl) z_len (by rfl) (xa_cons (xe_var (pv 1)) (xa_nil))) (xe_int)) (xe_callTy (cs_tuple) (by rfl) z_tuple (by rfl) (xa_cons (XN.lst (xn_cat (xe_ix (xe_var (pv 3)) (xe_int) (fun _ _ => rfl)) (xe_ix (xe_var (pv 3)) (xe_int) (fun _ _ => rfl)))) (xa_nil))) (xe_callTy (cs_tuple) (by rfl) z_tuple (by rfl) (xa_cons (xe_var (pv 1)) (xa_nil))))) (xss_nil))))
theorem ok__law_polygon {f__law_hull : Addr} {fd__law_hull : FuncData} {f__law_next : Addr} {fd__law_next : FuncData} {f__law_pick : Addr} {fd__law_pick : FuncData} {f : Addr} {fd : FuncData} (F : FunD K "_law_polygon" "_law_polygon" (defArgs s__law_polygon) (defBody s__law_polygon) (defScope s__law_polygon) [] [] f fd) (hm : mg "_law_polygon" = some (.ref f)) (z_len : mg "len" = none) (z_range : mg "range" = none) (z_tuple : mg "tuple" = none) (F__law_hull : FnG P w K mg base "_law_hull" f__law_hull fd__law_hull P__law_hull 3 m__law_hull) (b__law_hull : L2.Binds K fd__law_hull P__law_hull []) (F__law_next : FnG P w K mg base "_law_next" f__law_next fd__law_next P__law_next 1 m__law_next) (b__law_next : L2.Binds K fd__law_next P__law_next []) (F__law_pick : FnG P w K mg base "_law_pick" f__law_pick fd__law_pick P__law_pick 2 m__law_pick) (b__law_pick : L2.Binds K fd__law_pick P__law_pick []) : FnG P w K mg base "_law_polygon" f fd P__law_polygon 4 m__law_polygon := by
  refine fn_okD F sc__law_polygon hm fun cdv A outer s H E C => ?_
  have hc := C.calm; have hp := own_of (P := P) (w := w) (K := K) (mg := mg) (base := base) (N := N__law_polygon) (qual := "_law_polygon") (scope := defScope s__law_polygon) (f := f) (cd := cdv) (A := A) (outer := outer) (s := s) (H := H) (E := E)
  exact xss_cons (xs_for hp hc (xi_range1 (by rfl) z_range (xa_cons (xe_int) (xa_nil))) (xg_name (pg_name (i := 1) sc__law_polygon.nd rfl (.inl rfl))) (xss_cons (xs_asg (xe_tup (xa_cons (xe_call F__law_pick b__law_pick C (by decide) (by rfl) (xa_cons (xe_var (pv 0)) (xa_cons (XN.lst (xn_lst (xa_cons (xe_int) (xa_cons (xe_int) (xa_cons (xe_int) (xa_cons (xe_int) (xa_cons (xe_int) (xa_cons (xe_int) (xa_nil))))))))) (xa_nil)))) (xa_cons (xe_call F__law_pick b__law_pick C (by decide) (by rfl) (xa_cons (xe_var (pv 0)) (xa_cons (XN.lst (xn_lst (xa_cons (xe_int) (xa_cons (xe_int) (xa_cons (xe_int) (xa_cons (xe_int) (xa_cons (xe_int) (xa_cons (xe_int) (xa_nil))))))))) (xa_nil)))) (xa_nil)))) (xg_seq hc (xgs_cons (xg_name (pg_name (i := 2) sc__law_polygon.nd rfl (.inr rfl))) (xgs_cons (xg_name (pg_name (i := 3) sc__law_polygon.nd rfl (.inl rfl))) (xgs_nil))) (hl := tgCons_len (tgCons_len (tgNil_len))))) (xss_cons (xs_asg (xe_call F__law_hull b__law_hull C (by decide) (by rfl) (xa_cons (XN.lst (xn_comp (own := [("point", 5)]) hc sc__law_polygon.nd (xi_range1 (by rfl) z_range (xa_cons (xe_var (pv 3)) (xa_nil))) (blkOk_by (own := [("point", 5)]) (N := N__law_polygon) (sc := defScope s__law_polygon) (by decide +kernel)) (fun s1 H1 _ _ _ => xg_name (pg_name (i := 5) sc__law_polygon.nd rfl (.inl rfl))) (fun s1 H1 _ _ _ => xts_nil) (fun s1 H1 _ _ _ => xe_tup (xa_cons (xe_call F__law_next b__law_next C.blk (by decide) (by rfl) (xa_cons (xe_var (pv 0)) (xa_cons (xe_op os_add (xe_var (pv 2)) (xe_int)) (xa_nil)))) (xa_cons (xe_call F__law_next b__law_next C.blk (by decide) (by rfl) (xa_cons (xe_var (pv 0)) (xa_cons (xe_op os_add (xe_var (pv 2)) (xe_int)) (xa_nil)))) (xa_nil)))) (by decide))) (xa_nil))) (xg_name (pg_name (i := 4) sc__law_polygon.nd rfl (.inl rfl)))) (xss_cons (xs_if (xt_chain (os_lt) (os_lt) (xe_int) (xe_callB (cs_len) (by rfl) z_len (by rfl) (xa_cons (xe_var (pv 4)) (xa_nil))) (xe_int)) (xss_cons (xs_asg (xe_call F__law_pick b__law_pick C (by decide) (by rfl) (xa_cons (xe_var (pv 0)) (xa_cons (XN.lst (xn_lst (xa_cons (xe_tup (xa_cons (xe_int) (xa_cons (xe_int) (xa_nil)))) (xa_cons (xe_tup (xa_cons (xe_int) (xa_cons (xe_int) (xa_nil)))) (xa_cons (xe_tup (xa_cons (xe_neg (xe_int)) (xa_cons (xe_neg (xe_int)) (xa_nil)))) (xa_cons (xe_tup (xa_cons (xe_neg (xe_int)) (xa_cons (xe_int) (xa_nil)))) (xa_cons (xe_tup (xa_cons (xe_int) (xa_cons (xe_neg (xe_int)) (xa_nil)))) (xa_nil)))))))) (xa_nil)))) (xg_seq hc (xgs_cons (xg_name (pg_name (i := 6) sc__law_polygon.nd rfl (.inr rfl))) (xgs_cons (xg_name (pg_name (i := 7) sc__law_polygon.nd rfl (.inr rfl))) (xgs_nil))) (hl := tgCons_len (tgCons_len (tgNil_len))))) (xss_cons (xs_ret (xe_callTy (cs_tuple) (by rfl) z_tuple (by rfl) (xa_cons (XN.lst (xn_comp (own := [("p", 8), ("q", 9)]) hc sc__law_polygon.nd (xi_val (xe_var (pv 4))) (blkOk_by (own := [("p", 8), ("q", 9)]) (N := N__law_polygon) (sc := defScope s__law_polygon) (by decide +kernel)) (fun s1 H1 _ _ _ => xg_seq hc (xgs_cons (xg_name (pg_name (i := 8) sc__law_polygon.nd rfl (.inl rfl))) (xgs_cons (xg_name (pg_name (i := 9) sc__law_polygon.nd rfl (.inl rfl))) (xgs_nil))) (hl := tgCons_len (tgCons_len (tgNil_len)))) (fun s1 H1 _ _ _ => xts_nil) (fun s1 H1 _ _ _ => xe_tup (xa_cons (xe_op os_add (xe_var (pv 6)) (xe_var (pv 8))) (xa_cons (xe_op os_add (xe_var (pv 7)) (xe_var (pv 9))) (xa_nil)))) (by decide))) (xa_nil)))) (xss_nil))) (xss_nil)) (xss_nil))))) (xss_cons (xs_ret (xe_tup (xa_cons (xe_tup (xa_cons (xe_int) (xa_cons (xe_int) (xa_nil)))) (xa_cons (xe_tup (xa_cons (xe_op os_add (xe_int) (xe_call F__law_next b__law_next C (by decide) (by rfl) (xa_cons (xe_var (pv 0)) (xa_cons (xe_int) (xa_nil))))) (xa_cons (xe_int) (xa_nil)))) (xa_cons (xe_tup (xa_cons (xe_int) (xa_cons (xe_int) (xa_nil)))) (xa_nil)))))) (xss_nil))
theorem ok__law_edit {f__law_frame : Addr} {fd__law_frame : FuncData} {f__law_names : Addr} {fd__law_names : FuncData} {f__law_next : Addr} {fd__law_next : FuncData} {f__law_pick : Addr} {fd__law_pick : FuncData} {f__law_polygon : Addr} {fd__law_polygon : FuncData} {f : Addr} {fd : FuncData} (F : FunD K "_law_edit" "_law_edit" (defArgs s__law_edit) (defBody s__law_edit) (defScope s__law_edit) [] [] f fd) (hm : mg "_law_edit" = some (.ref f)) (z_max : mg "max" = none) (z_min : mg "min" = none) (F__law_frame : FnG P w K mg base "_law_frame" f__law_frame fd__law_frame P__law_frame 2 m__law_frame) (b__law_frame : L2.Binds K fd__law_frame P__law_frame []) (F__law_names : FnG P w K mg base "_law_names" f__law_names fd__law_names P__law_names 3 m__law_names) (b__law_names : L2.Binds K fd__law_names P__law_names []) (F__law_next : FnG P w K mg base "_law_next" f__law_next fd__law_next P__law_next 1 m__law_next) (b__law_next : L2.Binds K fd__law_next P__law_next []) (F__law_pick : FnG P w K mg base "_law_pick" f__law_pick fd__law_pick P__law_pick 2 m__law_pick) (b__law_pick : L2.Binds K fd__law_pick P__law_pick []) (F__law_polygon : FnG P w K mg base "_law_polygon" f__law_polygon fd__law_polygon P__law_polygon 4 m__law_polygon) (b__law_polygon : L2.Binds K fd__law_polygon P__law_polygon []) : FnG P w K mg base "_law_edit" f fd P__law_edit 5 m__law_edit := by
  refine fn_okD F sc__law_edit hm fun cdv A outer s H E C => ?_
  have hc := C.calm; have hp := own_of (P := P) (w := w) (K := K) (mg := mg) (base := base) (N := N__law_edit) (qual := "_law_edit") (scope := defScope s__law_edit) (f := f) (cd := cdv) (A := A) (outer := outer) (s := s) (H := H) (E := E)
  exact xss_cons (xs_asg (XN.lst (xn_lst (xa_cons (xe_str) (xa_cons (xe_str) (xa_cons (xe_str) (xa_cons (xe_str) (xa_cons (xe_str) (xa_cons (xe_str) (xa_cons (xe_str) (xa_cons (xe_str) (xa_cons (xe_str) (xa_cons (xe_str) (xa_cons (xe_str) (xa_cons (xe_str) (xa_cons (xe_str) (xa_nil)))))))))))))))) (xg_name (pg_name (i := 2) sc__law_edit.nd rfl (.inl rfl)))) (xss_cons (xs_asg (xe_call F__law_pick b__law_pick C (by decide) (by rfl) (xa_cons (xe_var (pv 0)) (xa_cons (xe_var (pv 2)) (xa_nil)))) (xg_name (pg_name (i := 3) sc__law_edit.nd rfl (.inl rfl)))) (xss_cons (xs_asg (xe_call F__law_names b__law_names C (by decide) (by rfl) (xa_cons (xe_var (pv 0)) (xa_cons (xe_var (pv 1)) (xa_nil)))) (xg_name (pg_name (i := 4) sc__law_edit.nd rfl (.inl rfl)))) (xss_cons (xs_if (xt_cmp (os_eq C.u64) (xe_var (pv 3)) (xe_str)) (xss_cons (xs_asg (XN.lst (xn_lst (xa_cons (xe_str) (xa_cons (xe_str) (xa_cons (xe_str) (xa_cons (xe_str) (xa_cons (xe_str) (xa_cons (xe_str) (xa_cons (xe_str) (xa_cons (xe_str) (xa_cons (xe_str) (xa_cons (xe_str) (xa_cons (xe_str) (xa_nil)))))))))))))) (xg_name (pg_name (i := 5) sc__law_edit.nd rfl (.inl rfl)))) (xss_cons (xs_ret (xe_tup (xa_cons (xe_var (pv 3)) (xa_cons (xe_call F__law_pick b__law_pick C (by decide) (by rfl) (xa_cons (xe_var (pv 0)) (xa_cons (xe_var (pv 5)) (xa_nil)))) (xa_cons (xe_call F__law_polygon b__law_polygon C (by decide) (by rfl) (xa_cons (xe_var (pv 0)) (xa_nil))) (xa_nil)))))) (xss_nil))) (xss_nil)) (xss_cons (xs_if (xt_cmp (os_eq C.u64) (xe_var (pv 3)) (xe_str)) (xss_cons (xs_ret (xe_tup (xa_cons (xe_var (pv 3)) (xa_cons (xe_var (pv 4)) (xa_nil))))) (xss_nil)) (xss_nil)) (xss_cons (xs_if (xt_cmp (os_eq C.u64) (xe_var (pv 3)) (xe_str)) (xss_cons (xs_ret (xe_tup (xa_cons (xe_var (pv 3)) (xa_cons (xe_var (pv 4)) (xa_cons (xe_call F__law_names b__law_names C (by decide) (by rfl) (xa_cons (xe_var (pv 0)) (xa_cons (xe_if (xt_cmp (os_gt) (xe_call F__law_next b__law_next C (by decide) (by rfl) (xa_cons (xe_var (pv 0)) (xa_cons (xe_int) (xa_nil)))) (xe_int)) (xe_newDf) (xe_var (pv 1))) (xa_nil)))) (xa_nil)))))) (xss_nil)) (xss_nil)) (xss_cons (xs_if (xt_cmp (os_eq C.u64) (xe_var (pv 3)) (xe_str)) (xss_cons (xs_ret (xe_tup (xa_cons (xe_var (pv 3)) (xa_cons (xe_var (pv 4)) (xa_cons (xe_call F__law_frame b__law_frame C (by decide) (by rfl) (xa_cons (xe_var (pv 0)) (xa_cons (xe_call F__law_pick b__law_pick C (by decide) (by rfl) (xa_cons (xe_var (pv 0)) (xa_cons (XN.lst (xn_lst (xa_cons (xe_int) (xa_cons (xe_int) (xa_cons (xe_int) (xa_nil)))))) (xa_nil)))) (xa_cons (xe_call F__law_pick b__law_pick C (by decide) (by rfl) (xa_cons (xe_var (pv 0)) (xa_cons (XN.lst (xn_lst (xa_cons (xe_int) (xa_cons (xe_int) (xa_cons (xe_int) (xa_cons (xe_int) (xa_nil))))))) (xa_nil)))) (xa_nil))))) (xa_nil)))))) (xss_nil)) (xss_nil)) (xss_cons (xs_if (xt_cmp (os_eq C.u64) (xe_var (pv 3)) (xe_str)) (xss_cons (xs_asg (xe_ix (xe_dget2 C.u1 (xe_var (pv 1)) (xe_var (pv 4)) (xe_tup (xa_cons (xe_tup (xa_cons (xe_int) (xa_cons (xe_int) (xa_nil)))) (xa_nil))) ⟨rfl, rfl, rfl, rfl⟩) (xe_int) (fun _ _ => rfl)) (xg_seq hc (xgs_cons (xg_name (pg_name (i := 6) sc__law_edit.nd rfl (.inl rfl))) (xgs_cons (xg_name (pg_name (i := 7) sc__law_edit.nd rfl (.inl rfl))) (xgs_nil))) (hl := tgCons_len (tgCons_len (tgNil_len))))) (xss_cons (xs_asg (xe_call F__law_pick b__law_pick C (by decide) (by rfl) (xa_cons (xe_var (pv 0)) (xa_cons (XN.lst (xn_lst (xa_cons (xe_int) (xa_cons (xe_int) (xa_cons (xe_int) (xa_cons (xe_int) (xa_nil))))))) (xa_nil)))) (xg_name (pg_name (i := 8) sc__law_edit.nd rfl (.inl rfl)))) (xss_cons (xs_asg (xe_tup (xa_cons (xe_op os_sub (xe_op os_add (xe_var (pv 6)) (xe_call F__law_next b__law_next C (by decide) (by rfl) (xa_cons (xe_var (pv 0)) (xa_cons (xe_op os_add (xe_op os_mul (xe_int) (xe_var (pv 8))) (xe_int)) (xa_nil))))) (xe_var (pv 8))) (xa_cons (xe_op os_sub (xe_op os_add (xe_var (pv 7)) (xe_call F__law_next b__law_next C (by decide) (by rfl) (xa_cons (xe_var (pv 0)) (xa_cons (xe_op os_add (xe_op os_mul (xe_int) (xe_var (pv 8))) (xe_int)) (xa_nil))))) (xe_var (pv 8))) (xa_nil)))) (xg_name (pg_name (i := 9) sc__law_edit.nd rfl (.inl rfl)))) (xss_cons (xs_ret (xe_tup (xa_cons (xe_var (pv 3)) (xa_cons (xe_var (pv 4)) (xa_cons (xe_tup (xa_cons (xe_callB (cs_max2 hc) (by rfl) z_max (by rfl) (xa_cons (xe_neg (xe_int)) (xa_cons (xe_callB (cs_min2 hc) (by rfl) z_min (by rfl) (xa_cons (xe_int) (xa_cons (xe_ix (xe_var (pv 9)) (xe_int) (fun _ _ => rfl)) (xa_nil)))) (xa_nil)))) (xa_cons (xe_callB (cs_max2 hc) (by rfl) z_max (by rfl) (xa_cons (xe_neg (xe_int)) (xa_cons (xe_callB (cs_min2 hc) (by rfl) z_min (by rfl) (xa_cons (xe_int) (xa_cons (xe_ix (xe_var (pv 9)) (xe_int) (fun _ _ => rfl)) (xa_nil)))) (xa_nil)))) (xa_nil)))) (xa_nil)))))) (xss_nil))))) (xss_nil)) (xss_cons (xs_if (xt_cmp (os_eq C.u64) (xe_var (pv 3)) (xe_str)) (xss_cons (xs_ret (xe_tup (xa_cons (xe_var (pv 3)) (xa_cons (xe_var (pv 4)) (xa_cons (xe_call F__law_pick b__law_pick C (by decide) (by rfl) (xa_cons (xe_var (pv 0)) (xa_cons (XN.lst (xn_lst (xa_cons (xe_int) (xa_cons (xe_int) (xa_cons (xe_int) (xa_cons (xe_int) (xa_cons (xe_int) (xa_cons (xe_int) (xa_cons (xe_int) (xa_cons (xe_int) (xa_cons (xe_int) (xa_nil)))))))))))) (xa_nil)))) (xa_nil)))))) (xss_nil)) (xss_nil)) (xss_cons (xs_ret (xe_tup (xa_cons (xe_var (pv 3)) (xa_cons (xe_var (pv 4)) (xa_cons (xe_if (xt_cmp (os_eq C.u64) (xe_var (pv 3)) (xe_str)) (xe_call F__law_names b__law_names C (by decide) (by rfl) (xa_cons (xe_var (pv 0)) (xa_cons (xe_var (pv 1)) (xa_nil)))) (xe_call F__law_pick b__law_pick C (by decide) (by rfl) (xa_cons (xe_var (pv 0)) (xa_cons (XN.lst (xn_lst (xa_cons (xe_int) (xa_cons (xe_int) (xa_cons (xe_int) (xa_cons (xe_int) (xa_cons (xe_int) (xa_cons (xe_int) (xa_nil))))))))) (xa_nil))))) (xa_nil)))))) (xss_nil))))))))))
theorem ok__law_is_number  {f : Addr} {fd : FuncData} (F : FunD K "_law_is_number" "_law_is_number" (defArgs s__law_is_number) (defBody s__law_is_number) (defScope s__law_is_number) [] [] f fd) (hm : mg "_law_is_number" = some (.ref f)) (z_bool : mg "bool" = none) (z_int : mg "int" = none) (z_isinstance : mg "isinstance" = none) : FnG P w K mg base "_law_is_number" f fd P__law_is_number 1 m__law_is_number := by
  refine fn_okD F sc__law_is_number hm fun cdv A outer s H E C => ?_
  have hc := C.calm; have hp := own_of (P := P) (w := w) (K := K) (mg := mg) (base := base) (N := N__law_is_number) (qual := "_law_is_number") (scope := defScope s__law_is_number) (f := f) (cd := cdv) (A := A) (outer := outer) (s := s) (H := H) (E := E)
  exact xss_cons (xs_ret (xe_and (xe_isi kit_int (by rfl) z_isinstance (by rfl) z_int (by rfl) (xe_var (pv 0))) (xe_and (xe_not (xe_isi kit_bool (by rfl) z_isinstance (by rfl) z_bool (by rfl) (xe_var (pv 0)))) (xe_one (xe_chain (os_le) (os_le) (xe_neg (xe_var (pv 1))) (xe_var (pv 0)) (xe_var (pv 1))))))) (xss_nil)
theorem ok__law_is_frame {f__law_is_number : Addr} {fd__law_is_number : FuncData} {f : Addr} {fd : FuncData} (F : FunD K "_law_is_frame" "_law_is_frame" (defArgs s__law_is_frame) (defBody s__law_is_frame) (defScope s__law_is_frame) [] [] f fd) (hm : mg "_law_is_frame" = some (.ref f)) (z_all : mg "all" = none) (z_isinstance : mg "isinstance" = none) (z_len : mg "len" = none) (z_tuple : mg "tuple" = none) (F__law_is_number : FnG P w K mg base "_law_is_number" f__law_is_number fd__law_is_number P__law_is_number 1 m__law_is_number) (b__law_is_number : L2.Binds K fd__law_is_number P__law_is_number []) : FnG P w K mg base "_law_is_frame" f fd P__law_is_frame 2 m__law_is_frame := by
  refine fn_okD F sc__law_is_frame hm fun cdv A outer s H E C => ?_
  have hc := C.calm; have hp := own_of (P := P) (w := w) (K := K) (mg := mg) (base := base) (N := N__law_is_frame) (qual := "_law_is_frame") (scope := defScope s__law_is_frame) (f := f) (cd := cdv) (A := A) (outer := outer) (s := s) (H := H) (E := E)
  exact xss_cons (xs_if (XW.xt (xw_or (xt_not (xt_val (xe_isi kit_tuple (by rfl) z_isinstance (by rfl) z_tuple (by rfl) (xe_var (pv 0))))) (xw_or (xt_cmp (os_ne C.u64) (xe_callB (cs_len) (by rfl) z_len (by rfl) (xa_cons (xe_var (pv 0)) (xa_nil))) (xe_int)) (xw_or1 (xt_not (xt_val (xe_callB (cs_all hc) (by rfl) z_all (by rfl) (xa_cons (XN.lst (xn_comp (own := [("item", 1)]) hc sc__law_is_frame.nd (xi_val (xe_var (pv 0))) (blkOk_by (own := [("item", 1)]) (N := N__law_is_frame) (sc := defScope s__law_is_frame) (by decide +kernel)) (fun s1 H1 _ _ _ => xg_name (pg_name (i := 1) sc__law_is_frame.nd rfl (.inl rfl))) (fun s1 H1 _ _ _ => xts_nil) (fun s1 H1 _ _ _ => xe_call F__law_is_number b__law_is_number C.blk (by decide) (by rfl) (xa_cons (xe_var (pv 1)) (xa_cons (xe_int) (xa_nil)))) (by decide))) (xa_nil))))))))) (xss_cons (xs_ret (xe_bl)) (xss_nil)) (xss_nil)) (xss_cons (xs_ret (xe_cmp (os_in C.u65) (xe_op os_sub (xe_op os_mul (xe_ix (xe_var (pv 0)) (xe_int) (fun _ _ => rfl)) (xe_ix (xe_var (pv 0)) (xe_int) (fun _ _ => rfl))) (xe_op os_mul (xe_ix (xe_var (pv 0)) (xe_int) (fun _ _ => rfl)) (xe_ix (xe_var (pv 0)) (xe_int) (fun _ _ => rfl)))) (xe_tup (xa_cons (xe_int) (xa_cons (xe_neg (xe_int)) (xa_nil)))))) (xss_nil))
theorem ok__law_is_from  {f : Addr} {fd : FuncData} (F : FunD K "_law_is_from" "_law_is_from" (defArgs s__law_is_from) (defBody s__law_is_from) (defScope s__law_is_from) [] [] f fd) (hm : mg "_law_is_from" = some (.ref f)) (z_bool : mg "bool" = none) (z_int : mg "int" = none) (z_isinstance : mg "isinstance" = none) : FnG P w K mg base "_law_is_from" f fd P__law_is_from 1 m__law_is_from := by
  refine fn_okD F sc__law_is_from hm fun cdv A outer s H E C => ?_
  have hc := C.calm; have hp := own_of (P := P) (w := w) (K := K) (mg := mg) (base := base) (N := N__law_is_from) (qual := "_law_is_from") (scope := defScope s__law_is_from) (f := f) (cd := cdv) (A := A) (outer := outer) (s := s) (H := H) (E := E)
  exact xss_cons (xs_ret (xe_and (xe_isi kit_int (by rfl) z_isinstance (by rfl) z_int (by rfl) (xe_var (pv 0))) (xe_and (xe_not (xe_isi kit_bool (by rfl) z_isinstance (by rfl) z_bool (by rfl) (xe_var (pv 0)))) (xe_one (xe_chain (os_le) (os_le) (xe_var (pv 1)) (xe_var (pv 0)) (xe_var (pv 2))))))) (xss_nil)
theorem ok__law_is_name  {f : Addr} {fd : FuncData} (F : FunD K "_law_is_name" "_law_is_name" (defArgs s__law_is_name) (defBody s__law_is_name) (defScope s__law_is_name) [] [] f fd) (hm : mg "_law_is_name" = some (.ref f)) (z_isinstance : mg "isinstance" = none) (z_len : mg "len" = none) (z_str : mg "str" = none) : FnG P w K mg base "_law_is_name" f fd P__law_is_name 1 m__law_is_name := by
  refine fn_okD F sc__law_is_name hm fun cdv A outer s H E C => ?_
  have hc := C.calm; have hp := own_of (P := P) (w := w) (K := K) (mg := mg) (base := base) (N := N__law_is_name) (qual := "_law_is_name") (scope := defScope s__law_is_name) (f := f) (cd := cdv) (A := A) (outer := outer) (s := s) (H := H) (E := E)
  exact xss_cons (xs_if (XW.xt (xw_or (xt_not (xt_val (xe_isi kit_str (by rfl) z_isinstance (by rfl) z_str (by rfl) (xe_var (pv 0))))) (xw_or (xt_not (xt_chain (os_le) (os_le) (xe_int) (xe_callB (cs_len) (by rfl) z_len (by rfl) (xa_cons (xe_var (pv 0)) (xa_nil))) (xe_int))) (xw_or1 (xt_cmp (os_eq C.u64) (xe_var (pv 0)) (xe_str)))))) (xss_cons (xs_ret (xe_bl)) (xss_nil)) (xss_nil)) (xss_cons (xs_ret (xe_cmp (os_eq C.u64) (XN.lst (xn_comp (own := [("sign", 1)]) hc sc__law_is_name.nd (xi_val (xe_var (pv 0))) (blkOk_by (own := [("sign", 1)]) (N := N__law_is_name) (sc := defScope s__law_is_name) (by decide +kernel)) (fun s1 H1 _ _ _ => xg_name (pg_name (i := 1) sc__law_is_name.nd rfl (.inl rfl))) (fun s1 H1 _ _ _ => xts_one (xt_cmp (os_notIn C.u65) (xe_var (pv 1)) (xe_str))) (fun s1 H1 _ _ _ => xe_var (pv 1)) (by decide))) (XN.lst (xn_lst (xa_nil))))) (xss_nil))
theorem ok__law_is_pair {f__law_is_number : Addr} {fd__law_is_number : FuncData} {f : Addr} {fd : FuncData} (F : FunD K "_law_is_pair" "_law_is_pair" (defArgs s__law_is_pair) (defBody s__law_is_pair) (defScope s__law_is_pair) [] [] f fd) (hm : mg "_law_is_pair" = some (.ref f)) (z_all : mg "all" = none) (z_isinstance : mg "isinstance" = none) (z_len : mg "len" = none) (z_tuple : mg "tuple" = none) (F__law_is_number : FnG P w K mg base "_law_is_number" f__law_is_number fd__law_is_number P__law_is_number 1 m__law_is_number) (b__law_is_number : L2.Binds K fd__law_is_number P__law_is_number []) : FnG P w K mg base "_law_is_pair" f fd P__law_is_pair 2 m__law_is_pair := by
  refine fn_okD F sc__law_is_pair hm fun cdv A outer s H E C => ?_
  have hc := C.calm; have hp := own_of (P := P) (w := w) (K := K) (mg := mg) (base := base) (N := N__law_is_pair) (qual := "_law_is_pair") (scope := defScope s__law_is_pair) (f := f) (cd := cdv) (A := A) (outer := outer) (s := s) (H := H) (E := E)
  exact xss_cons (xs_ret (xe_and (xe_isi kit_tuple (by rfl) z_isinstance (by rfl) z_tuple (by rfl) (xe_var (pv 0))) (xe_and (xe_cmp (os_eq C.u64) (xe_callB (cs_len) (by rfl) z_len (by rfl) (xa_cons (xe_var (pv 0)) (xa_nil))) (xe_int)) (xe_one (xe_callB (cs_all hc) (by rfl) z_all (by rfl) (xa_cons (XN.lst (xn_comp (own := [("item", 2)]) hc sc__law_is_pair.nd (xi_val (xe_var (pv 0))) (blkOk_by (own := [("item", 2)]) (N := N__law_is_pair) (sc := defScope s__law_is_pair) (by decide +kernel)) (fun s1 H1 _ _ _ => xg_name (pg_name (i := 2) sc__law_is_pair.nd rfl (.inl rfl))) (fun s1 H1 _ _ _ => xts_nil) (fun s1 H1 _ _ _ => xe_call F__law_is_number b__law_is_number C.blk (by decide) (by rfl) (xa_cons (xe_var (pv 2)) (xa_cons (xe_var (pv 1)) (xa_nil)))) (by decide))) (xa_nil))))))) (xss_nil)
theorem ok__law_is_below {f__law_det : Addr} {fd__law_det : FuncData} {f : Addr} {fd : FuncData} (F : FunD K "_law_is_below" "_law_is_below" (defArgs s__law_is_below) (defBody s__law_is_below) (defScope s__law_is_below) [] [] f fd) (hm : mg "_law_is_below" = some (.ref f)) (z_int : mg "int" = none) (F__law_det : FnG P w K mg base "_law_det" f__law_det fd__law_det P__law_det 1 m__law_det) (b__law_det : L2.Binds K fd__law_det P__law_det []) : FnG P w K mg base "_law_is_below" f fd P__law_is_below 2 m__law_is_below := by
  refine fn_okD F sc__law_is_below hm fun cdv A outer s H E C => ?_
  have hc := C.calm; have hp := own_of (P := P) (w := w) (K := K) (mg := mg) (base := base) (N := N__law_is_below) (qual := "_law_is_below") (scope := defScope s__law_is_below) (f := f) (cd := cdv) (A := A) (outer := outer) (s := s) (H := H) (E := E)
  exact xss_cons (xs_asg (XN.lst (xn_comp (own := [("way", 4)]) hc sc__law_is_below.nd (xi_val (xe_tup (xa_cons (xe_var (pv 0)) (xa_cons (xe_var (pv 1)) (xa_nil))))) (blkOk_by (own := [("way", 4)]) (N := N__law_is_below) (sc := defScope s__law_is_below) (by decide +kernel)) (fun s1 H1 _ _ _ => xg_name (pg_name (i := 4) sc__law_is_below.nd rfl (.inl rfl))) (fun s1 H1 _ _ _ => xts_nil) (fun s1 H1 _ _ _ => xe_callTy (cs_int) (by rfl) z_int (by rfl) (xa_cons (xe_or (xe_cmp (os_lt) (xe_ix (xe_var (pv 4)) (xe_int) (fun _ _ => rfl)) (xe_int)) (xe_one (xe_and (xe_cmp (os_eq C.u64) (xe_ix (xe_var (pv 4)) (xe_int) (fun _ _ => rfl)) (xe_int)) (xe_one (xe_cmp (os_lt) (xe_ix (xe_var (pv 4)) (xe_int) (fun _ _ => rfl)) (xe_int)))))) (xa_nil))) (by decide))) (xg_seq hc (xgs_cons (xg_name (pg_name (i := 2) sc__law_is_below.nd rfl (.inl rfl))) (xgs_cons (xg_name (pg_name (i := 3) sc__law_is_below.nd rfl (.inl rfl))) (xgs_nil))) (hl := tgCons_len (tgCons_len (tgNil_len))))) (xss_cons (xs_ret (xe_if (xt_cmp (os_eq C.u64) (xe_var (pv 2)) (xe_var (pv 3))) (xe_cmp (os_gt) (xe_call F__law_det b__law_det C (by decide) (by rfl) (xa_cons (xe_var (pv 0)) (xa_cons (xe_var (pv 1)) (xa_nil)))) (xe_int)) (xe_cmp (os_lt) (xe_var (pv 2)) (xe_var (pv 3))))) (xss_nil))
theorem ok__law_polygon_fault {f__law_bend : Addr} {fd__law_bend : FuncData} {f__law_is_below : Addr} {fd__law_is_below : FuncData} {f__law_is_pair : Addr} {fd__law_is_pair : FuncData} {f : Addr} {fd : FuncData} (F : FunD K "_law_polygon_fault" "_law_polygon_fault" (defArgs s__law_polygon_fault) (defBody s__law_polygon_fault) (defScope s__law_polygon_fault) [] [] f fd) (hm : mg "_law_polygon_fault" = some (.ref f)) (z_enumerate : mg "enumerate" = none) (z_int : mg "int" = none) (z_isinstance : mg "isinstance" = none) (z_len : mg "len" = none) (z_min : mg "min" = none) (z_range : mg "range" = none) (z_tuple : mg "tuple" = none) (F__law_bend : FnG P w K mg base "_law_bend" f__law_bend fd__law_bend P__law_bend 2 m__law_bend) (b__law_bend : L2.Binds K fd__law_bend P__law_bend []) (F__law_is_below : FnG P w K mg base "_law_is_below" f__law_is_below fd__law_is_below P__law_is_below 2 m__law_is_below) (b__law_is_below : L2.Binds K fd__law_is_below P__law_is_below []) (F__law_is_pair : FnG P w K mg base "_law_is_pair" f__law_is_pair fd__law_is_pair P__law_is_pair 2 m__law_is_pair) (b__law_is_pair : L2.Binds K fd__law_is_pair P__law_is_pair []) : FnG P w K mg base "_law_polygon_fault" f fd P__law_polygon_fault 3 m__law_polygon_fault := by
  refine fn_okD F sc__law_polygon_fault hm fun cdv A outer s H E C => ?_
  have hc := C.calm; have hp := own_of (P := P) (w := w) (K := K) (mg := mg) (base := base) (N := N__law_polygon_fault) (qual := "_law_polygon_fault") (scope := defScope s__law_polygon_fault) (f := f) (cd := cdv) (A := A) (outer := outer) (s := s) (H := H) (E := E)
  exact xss_cons (xs_if (XW.xt (xw_or (xt_not (xt_val (xe_isi kit_tuple (by rfl) z_isinstance (by rfl) z_tuple (by rfl) (xe_var (pv 0))))) (xw_or1 (xt_not (xt_chain (os_le) (os_le) (xe_int) (xe_callB (cs_len) (by rfl) z_len (by rfl) (xa_cons (xe_var (pv 0)) (xa_nil))) (xe_int)))))) (xss_cons (xs_ret (xe_str)) (xss_nil)) (xss_nil)) (xss_cons (xs_for hp hc (xi_enum (by rfl) z_enumerate (xa_cons (xe_var (pv 0)) (xa_nil))) (xg_seq hc (xgs_cons (xg_name (pg_name (i := 1) sc__law_polygon_fault.nd rfl (.inl rfl))) (xgs_cons (xg_name (pg_name (i := 2) sc__law_polygon_fault.nd rfl (.inl rfl))) (xgs_nil))) (hl := tgCons_len (tgCons_len (tgNil_len)))) (xss_cons (xs_if (xt_not (xt_val (xe_call F__law_is_pair b__law_is_pair C (by decide) (by rfl) (xa_cons (xe_var (pv 2)) (xa_cons (xe_int) (xa_nil)))))) (xss_cons (xs_ret (xe_tup (xa_cons (xe_str) (xa_cons (xe_var (pv 1)) (xa_nil))))) (xss_nil)) (xss_nil)) (xss_nil))) (xss_cons (xs_asg (xe_tup (xa_cons (xe_callB (cs_len) (by rfl) z_len (by rfl) (xa_cons (xe_var (pv 0)) (xa_nil))) (xa_cons (XN.ref (xn_lst (xa_nil))) (xa_nil)))) (xg_seq hc (xgs_cons (xg_name (pg_name (i := 3) sc__law_polygon_fault.nd rfl (.inl rfl))) (xgs_cons (xg_name (pg_name (i := 4) sc__law_polygon_fault.nd rfl (.inr rfl))) (xgs_nil))) (hl := tgCons_len (tgCons_len (tgNil_len))))) (xss_cons (xs_for hp hc (xi_enum (by rfl) z_enumerate (xa_cons (xe_var (pv 0)) (xa_nil))) (xg_seq hc (xgs_cons (xg_name (pg_name (i := 1) sc__law_polygon_fault.nd rfl (.inl rfl))) (xgs_cons (xg_name (pg_name (i := 2) sc__law_polygon_fault.nd rfl (.inl rfl))) (xgs_nil))) (hl := tgCons_len (tgCons_len (tgNil_len)))) (xss_cons (xs_if (xt_cmp (os_le) (xe_call F__law_bend b__law_bend C (by decide) (by rfl) (xa_cons (xe_ix (xe_var (pv 0)) (xe_op os_sub (xe_var (pv 1)) (xe_int)) (fun _ _ => rfl)) (xa_cons (xe_var (pv 2)) (xa_cons (xe_ix (xe_var (pv 0)) (xe_op os_mod (xe_callTy (cs_int) (by rfl) z_int (by rfl) (xa_cons (xe_op os_add (xe_var (pv 1)) (xe_int)) (xa_nil))) (xe_var (pv 3))) (fun _ _ => rfl)) (xa_nil))))) (xe_int)) (xss_cons (xs_ret (xe_tup (xa_cons (xe_str) (xa_cons (xe_var (pv 1)) (xa_nil))))) (xss_nil)) (xss_nil)) (xss_cons (xs_do (xe_append (xe_var (pv 4)) (xe_tup (xa_cons (xe_op os_sub (xe_ix (xe_var (pv 2)) (xe_int) (fun _ _ => rfl)) (xe_ix (xe_ix (xe_var (pv 0)) (xe_op os_sub (xe_var (pv 1)) (xe_int)) (fun _ _ => rfl)) (xe_int) (fun _ _ => rfl))) (xa_cons (xe_op os_sub (xe_ix (xe_var (pv 2)) (xe_int) (fun _ _ => rfl)) (xe_ix (xe_ix (xe_var (pv 0)) (xe_op os_sub (xe_var (pv 1)) (xe_int)) (fun _ _ => rfl)) (xe_int) (fun _ _ => rfl))) (xa_nil)))))) (xss_nil)))) (xss_cons (xs_if (xt_cmp (os_gt) (xe_callB (cs_len) (by rfl) z_len (by rfl) (xa_cons (XN.lst (xn_comp (own := [("k", 1)]) hc sc__law_polygon_fault.nd (xi_range1 (by rfl) z_range (xa_cons (xe_var (pv 3)) (xa_nil))) (blkOk_by (own := [("k", 1)]) (N := N__law_polygon_fault) (sc := defScope s__law_polygon_fault) (by decide +kernel)) (fun s1 H1 _ _ _ => xg_name (pg_name (i := 1) sc__law_polygon_fault.nd rfl (.inl rfl))) (fun s1 H1 _ _ _ => xts_one (xt_not (xt_val (xe_call F__law_is_below b__law_is_below C.blk (by decide) (by rfl) (xa_cons (xe_ix (xe_var (pv 4)) (xe_op os_sub (xe_var (pv 1)) (xe_int)) (fun _ _ => rfl)) (xa_cons (xe_ix (xe_var (pv 4)) (xe_var (pv 1)) (fun _ _ => rfl)) (xa_nil))))))) (fun s1 H1 _ _ _ => xe_int) (by decide))) (xa_nil))) (xe_int)) (xss_cons (xs_ret (xe_str)) (xss_nil)) (xss_nil)) (xss_cons (xs_ret (xe_if (xt_cmp (os_eq C.u64) (xe_ix (xe_var (pv 0)) (xe_int) (fun _ _ => rfl)) (xe_callB (cs_minT hc C.u2) (by rfl) z_min (by rfl) (xa_cons (xe_var (pv 0)) (xa_nil)))) (xe_non) (xe_str))) (xss_nil))))))
theorem ok__law_is_item {f__law_is_frame : Addr} {fd__law_is_frame : FuncData} {f__law_is_from : Addr} {fd__law_is_from : FuncData} {f__law_is_name : Addr} {fd__law_is_name : FuncData} {f__law_is_pair : Addr} {fd__law_is_pair : FuncData} {f__law_polygon_fault : Addr} {fd__law_polygon_fault : FuncData} {f : Addr} {fd : FuncData} (F : FunD K "_law_is_item" "_law_is_item" (defArgs s__law_is_item) (defBody s__law_is_item) (defScope s__law_is_item) [] [] f fd) (hm : mg "_law_is_item" = some (.ref f)) (F__law_is_frame : FnG P w K mg base "_law_is_frame" f__law_is_frame fd__law_is_frame P__law_is_frame 2 m__law_is_frame) (b__law_is_frame : L2.Binds K fd__law_is_frame P__law_is_frame []) (F__law_is_from : FnG P w K mg base "_law_is_from" f__law_is_from fd__law_is_from P__law_is_from 1 m__law_is_from) (b__law_is_from : L2.Binds K fd__law_is_from P__law_is_from []) (F__law_is_name : FnG P w K mg base "_law_is_name" f__law_is_name fd__law_is_name P__law_is_name 1 m__law_is_name) (b__law_is_name : L2.Binds K fd__law_is_name P__law_is_name []) (F__law_is_pair : FnG P w K mg base "_law_is_pair" f__law_is_pair fd__law_is_pair P__law_is_pair 2 m__law_is_pair) (b__law_is_pair : L2.Binds K fd__law_is_pair P__law_is_pair []) (F__law_polygon_fault : FnG P w K mg base "_law_polygon_fault" f__law_polygon_fault fd__law_polygon_fault P__law_polygon_fault 3 m__law_polygon_fault) (b__law_polygon_fault : L2.Binds K fd__law_polygon_fault P__law_polygon_fault []) : FnG P w K mg base "_law_is_item" f fd P__law_is_item 4 m__law_is_item := by
  refine fn_okD F sc__law_is_item hm fun cdv A outer s H E C => ?_
  have hc := C.calm; have hp := own_of (P := P) (w := w) (K := K) (mg := mg) (base := base) (N := N__law_is_item) (qual := "_law_is_item") (scope := defScope s__law_is_item) (f := f) (cd := cdv) (A := A) (outer := outer) (s := s) (H := H) (E := E)
  exact xss_cons (xs_if (XW.xt (xw_or (xt_cmp (os_eq C.u64) (xe_var (pv 1)) (xe_int)) (xw_or1 (xt_cmp (os_in C.u65) (xe_var (pv 0)) (xe_tup (xa_cons (xe_str) (xa_cons (xe_str) (xa_nil)))))))) (xss_cons (xs_ret (xe_call F__law_is_name b__law_is_name C (by decide) (by rfl) (xa_cons (xe_var (pv 2)) (xa_nil)))) (xss_nil)) (xss_nil)) (xss_cons (xs_if (xt_cmp (os_eq C.u64) (xe_var (pv 0)) (xe_str)) (xss_cons (xs_ret (xe_isN (xe_call F__law_polygon_fault b__law_polygon_fault C (by decide) (by rfl) (xa_cons (xe_var (pv 2)) (xa_nil))))) (xss_nil)) (xss_nil)) (xss_cons (xs_if (xt_cmp (os_eq C.u64) (xe_var (pv 0)) (xe_str)) (xss_cons (xs_ret (xe_call F__law_is_frame b__law_is_frame C (by decide) (by rfl) (xa_cons (xe_var (pv 2)) (xa_nil)))) (xss_nil)) (xss_nil)) (xss_cons (xs_if (xt_cmp (os_eq C.u64) (xe_var (pv 0)) (xe_str)) (xss_cons (xs_ret (xe_call F__law_is_pair b__law_is_pair C (by decide) (by rfl) (xa_cons (xe_var (pv 2)) (xa_cons (xe_int) (xa_nil))))) (xss_nil)) (xss_nil)) (xss_cons (xs_ret (xe_if (xt_cmp (os_eq C.u64) (xe_var (pv 0)) (xe_str)) (xe_call F__law_is_from b__law_is_from C (by decide) (by rfl) (xa_cons (xe_var (pv 2)) (xa_cons (xe_int) (xa_cons (xe_int) (xa_nil))))) (xe_call F__law_is_from b__law_is_from C (by decide) (by rfl) (xa_cons (xe_var (pv 2)) (xa_cons (xe_int) (xa_cons (xe_int) (xa_nil))))))) (xss_nil)))))
theorem ok__law_edit_fault {f__law_is_item : Addr} {fd__law_is_item : FuncData} {f : Addr} {fd : FuncData} (F : FunD K "_law_edit_fault" "_law_edit_fault" (defArgs s__law_edit_fault) (defBody s__law_edit_fault) (defScope s__law_edit_fault) [] [] f fd) (hm : mg "_law_edit_fault" = some (.ref f)) (z_isinstance : mg "isinstance" = none) (z_len : mg "len" = none) (z_range : mg "range" = none) (z_str : mg "str" = none) (z_tuple : mg "tuple" = none) (F__law_is_item : FnG P w K mg base "_law_is_item" f__law_is_item fd__law_is_item P__law_is_item 4 m__law_is_item) (b__law_is_item : L2.Binds K fd__law_is_item P__law_is_item []) : FnG P w K mg base "_law_edit_fault" f fd P__law_edit_fault 5 m__law_edit_fault := by
  refine fn_okD F sc__law_edit_fault hm fun cdv A outer s H E C => ?_
  have hc := C.calm; have hp := own_of (P := P) (w := w) (K := K) (mg := mg) (base := base) (N := N__law_edit_fault) (qual := "_law_edit_fault") (scope := defScope s__law_edit_fault) (f := f) (cd := cdv) (A := A) (outer := outer) (s := s) (H := H) (E := E)
  exact xss_cons (xs_if (XW.xt (xw_or (xt_not (xt_val (xe_isi kit_tuple (by rfl) z_isinstance (by rfl) z_tuple (by rfl) (xe_var (pv 0))))) (xw_or (xt_cmp (os_eq C.u64) (xe_var (pv 0)) (xe_tup (xa_nil))) (xw_or1 (xt_not (xt_val (xe_isi kit_str (by rfl) z_isinstance (by rfl) z_str (by rfl) (xe_ix (xe_var (pv 0)) (xe_int) (fun _ _ => rfl))))))))) (xss_cons (xs_ret (xe_str)) (xss_nil)) (xss_nil)) (xss_cons (xs_if (xt_cmp (os_notIn C.u65) (xe_ix (xe_var (pv 0)) (xe_int) (fun _ _ => rfl)) (xe_tup (xa_cons (xe_str) (xa_cons (xe_str) (xa_cons (xe_str) (xa_cons (xe_str) (xa_cons (xe_str) (xa_cons (xe_str) (xa_cons (xe_str) (xa_cons (xe_str) (xa_nil))))))))))) (xss_cons (xs_ret (xe_str)) (xss_nil)) (xss_nil)) (xss_cons (xs_if (xt_cmp (os_ne C.u64) (xe_callB (cs_len) (by rfl) z_len (by rfl) (xa_cons (xe_var (pv 0)) (xa_nil))) (xe_if (xt_cmp (os_eq C.u64) (xe_ix (xe_var (pv 0)) (xe_int) (fun _ _ => rfl)) (xe_str)) (xe_int) (xe_int))) (xss_cons (xs_ret (xe_str)) (xss_nil)) (xss_nil)) (xss_cons (xs_for hp hc (xi_range2 (by rfl) z_range (xa_cons (xe_int) (xa_cons (xe_callB (cs_len) (by rfl) z_len (by rfl) (xa_cons (xe_var (pv 0)) (xa_nil))) (xa_nil)))) (xg_name (pg_name (i := 1) sc__law_edit_fault.nd rfl (.inl rfl))) (xss_cons (xs_if (xt_not (xt_val (xe_call F__law_is_item b__law_is_item C (by decide) (by rfl) (xa_cons (xe_ix (xe_var (pv 0)) (xe_int) (fun _ _ => rfl)) (xa_cons (xe_var (pv 1)) (xa_cons (xe_ix (xe_var (pv 0)) (xe_var (pv 1)) (fun _ _ => rfl)) (xa_nil))))))) (xss_cons (xs_ret (xe_tup (xa_cons (xe_str) (xa_cons (xe_var (pv 1)) (xa_nil))))) (xss_nil)) (xss_nil)) (xss_nil))) (xss_cons (xs_ret (xe_non)) (xss_nil)))))
theorem ok_frame_det  {f : Addr} {fd : FuncData} (F : FunD K "frame_det" "frame_det" (defArgs s_frame_det) (defBody s_frame_det) (defScope s_frame_det) [] [] f fd) (hm : mg "frame_det" = some (.ref f))  : FnG P w K mg base "frame_det" f fd P_frame_det 1 m_frame_det := by
  refine fn_okD F sc_frame_det hm fun cdv A outer s H E C => ?_
  have hc := C.calm; have hp := own_of (P := P) (w := w) (K := K) (mg := mg) (base := base) (N := N_frame_det) (qual := "frame_det") (scope := defScope s_frame_det) (f := f) (cd := cdv) (A := A) (outer := outer) (s := s) (H := H) (E := E)
  exact xss_cons (xs_ret (xe_op os_sub (xe_op os_mul (xe_ix (xe_var (pv 0)) (xe_int) (fun _ _ => rfl)) (xe_ix (xe_var (pv 0)) (xe_int) (fun _ _ => rfl))) (xe_op os_mul (xe_ix (xe_var (pv 0)) (xe_int) (fun _ _ => rfl)) (xe_ix (xe_var (pv 0)) (xe_int) (fun _ _ => rfl))))) (xss_nil)
theorem ok_is_number  {f : Addr} {fd : FuncData} (F : FunD K "is_number" "is_number" (defArgs s_is_number) (defBody s_is_number) (defScope s_is_number) [] [] f fd) (hm : mg "is_number" = some (.ref f)) (z_bool : mg "bool" = none) (z_int : mg "int" = none) (z_isinstance : mg "isinstance" = none) : FnG P w K mg base "is_number" f fd P_is_number 1 m_is_number := by
  refine fn_okD F sc_is_number hm fun cdv A outer s H E C => ?_
  have hc := C.calm; have hp := own_of (P := P) (w := w) (K := K) (mg := mg) (base := base) (N := N_is_number) (qual := "is_number") (scope := defScope s_is_number) (f := f) (cd := cdv) (A := A) (outer := outer) (s := s) (H := H) (E := E)
  exact xss_cons (xs_ret (xe_and (xe_isi kit_int (by rfl) z_isinstance (by rfl) z_int (by rfl) (xe_var (pv 0))) (xe_one (xe_not (xe_isi kit_bool (by rfl) z_isinstance (by rfl) z_bool (by rfl) (xe_var (pv 0))))))) (xss_nil)
theorem ok_is_within {f_is_number : Addr} {fd_is_number : FuncData} {f : Addr} {fd : FuncData} (F : FunD K "is_within" "is_within" (defArgs s_is_within) (defBody s_is_within) (defScope s_is_within) [] [] f fd) (hm : mg "is_within" = some (.ref f)) (F_is_number : FnG P w K mg base "is_number" f_is_number fd_is_number P_is_number 1 m_is_number) (b_is_number : L2.Binds K fd_is_number P_is_number []) : FnG P w K mg base "is_within" f fd P_is_within 2 m_is_within := by
  refine fn_okD F sc_is_within hm fun cdv A outer s H E C => ?_
  have hc := C.calm; have hp := own_of (P := P) (w := w) (K := K) (mg := mg) (base := base) (N := N_is_within) (qual := "is_within") (scope := defScope s_is_within) (f := f) (cd := cdv) (A := A) (outer := outer) (s := s) (H := H) (E := E)
  exact xss_cons (xs_ret (xe_and (xe_call F_is_number b_is_number C (by decide) (by rfl) (xa_cons (xe_var (pv 0)) (xa_nil))) (xe_one (xe_chain (os_le) (os_le) (xe_var (pv 1)) (xe_var (pv 0)) (xe_var (pv 2)))))) (xss_nil)
theorem ok_frame_error {f_frame_det : Addr} {fd_frame_det : FuncData} {f_is_within : Addr} {fd_is_within : FuncData} {f : Addr} {fd : FuncData} (F : FunD K "frame_error" "frame_error" (defArgs s_frame_error) (defBody s_frame_error) (defScope s_frame_error) [] [] f fd) (hm : mg "frame_error" = some (.ref f)) (z_enumerate : mg "enumerate" = none) (z_isinstance : mg "isinstance" = none) (z_len : mg "len" = none) (z_tuple : mg "tuple" = none) (g_MAX_SIZE : GInt mg "MAX_SIZE" 1000000) (F_frame_det : FnG P w K mg base "frame_det" f_frame_det fd_frame_det P_frame_det 1 m_frame_det) (b_frame_det : L2.Binds K fd_frame_det P_frame_det []) (F_is_within : FnG P w K mg base "is_within" f_is_within fd_is_within P_is_within 2 m_is_within) (b_is_within : L2.Binds K fd_is_within P_is_within []) : FnG P w K mg base "frame_error" f fd P_frame_error 3 m_frame_error := by
  refine fn_okD F sc_frame_error hm fun cdv A outer s H E C => ?_
  have hc := C.calm; have hp := own_of (P := P) (w := w) (K := K) (mg := mg) (base := base) (N := N_frame_error) (qual := "frame_error") (scope := defScope s_frame_error) (f := f) (cd := cdv) (A := A) (outer := outer) (s := s) (H := H) (E := E)
  exact xss_cons (xs_if (XW.xt (xw_or (xt_not (xt_val (xe_isi kit_tuple (by rfl) z_isinstance (by rfl) z_tuple (by rfl) (xe_var (pv 0))))) (xw_or1 (xt_cmp (os_ne C.u64) (xe_callB (cs_len) (by rfl) z_len (by rfl) (xa_cons (xe_var (pv 0)) (xa_nil))) (xe_int))))) (xss_cons (xs_ret (xe_str)) (xss_nil)) (xss_nil)) (xss_cons (xs_for hp hc (xi_enum (by rfl) z_enumerate (xa_cons (xe_var (pv 0)) (xa_nil))) (xg_seq hc (xgs_cons (xg_name (pg_name (i := 1) sc_frame_error.nd rfl (.inl rfl))) (xgs_cons (xg_name (pg_name (i := 2) sc_frame_error.nd rfl (.inl rfl))) (xgs_nil))) (hl := tgCons_len (tgCons_len (tgNil_len)))) (xss_cons (xs_if (xt_not (xt_val (xe_call F_is_within b_is_within C (by decide) (by rfl) (xa_cons (xe_var (pv 2)) (xa_cons (xe_neg (xe_gint (by rfl) g_MAX_SIZE)) (xa_cons (xe_gint (by rfl) g_MAX_SIZE) (xa_nil))))))) (xss_cons (xs_ret (xe_tup (xa_cons (xe_str) (xa_cons (xe_var (pv 1)) (xa_nil))))) (xss_nil)) (xss_nil)) (xss_nil))) (xss_cons (xs_ret (xe_if (xt_cmp (os_in C.u65) (xe_call F_frame_det b_frame_det C (by decide) (by rfl) (xa_cons (xe_var (pv 0)) (xa_nil))) (xe_tup (xa_cons (xe_int) (xa_cons (xe_neg (xe_int)) (xa_nil))))) (xe_non) (xe_str))) (xss_nil)))
theorem ok_is_name  {f : Addr} {fd : FuncData} (F : FunD K "is_name" "is_name" (defArgs s_is_name) (defBody s_is_name) (defScope s_is_name) [] [] f fd) (hm : mg "is_name" = some (.ref f)) (z_all : mg "all" = none) (z_isinstance : mg "isinstance" = none) (z_len : mg "len" = none) (z_str : mg "str" = none) (g_MOST_SIGNS : GInt mg "MOST_SIGNS" 8) : FnG P w K mg base "is_name" f fd P_is_name 1 m_is_name := by
  refine fn_okD F sc_is_name hm fun cdv A outer s H E C => ?_
  have hc := C.calm; have hp := own_of (P := P) (w := w) (K := K) (mg := mg) (base := base) (N := N_is_name) (qual := "is_name") (scope := defScope s_is_name) (f := f) (cd := cdv) (A := A) (outer := outer) (s := s) (H := H) (E := E)
  exact xss_cons (xs_if (XW.xt (xw_or (xt_not (xt_val (xe_isi kit_str (by rfl) z_isinstance (by rfl) z_str (by rfl) (xe_var (pv 0))))) (xw_or (xt_not (xt_chain (os_le) (os_le) (xe_int) (xe_callB (cs_len) (by rfl) z_len (by rfl) (xa_cons (xe_var (pv 0)) (xa_nil))) (xe_gint (by rfl) g_MOST_SIGNS))) (xw_or1 (xt_cmp (os_eq C.u64) (xe_var (pv 0)) (xe_str)))))) (xss_cons (xs_ret (xe_bl)) (xss_nil)) (xss_nil)) (xss_cons (xs_ret (xe_callB (cs_all hc) (by rfl) z_all (by rfl) (xa_cons (XN.lst (xn_comp (own := [("sign", 1)]) hc sc_is_name.nd (xi_val (xe_var (pv 0))) (blkOk_by (own := [("sign", 1)]) (N := N_is_name) (sc := defScope s_is_name) (by decide +kernel)) (fun s1 H1 _ _ _ => xg_name (pg_name (i := 1) sc_is_name.nd rfl (.inl rfl))) (fun s1 H1 _ _ _ => xts_nil) (fun s1 H1 _ _ _ => xe_cmp (os_in C.u65) (xe_var (pv 1)) (xe_str)) (by decide))) (xa_nil)))) (xss_nil))
theorem ok_is_point {f_is_within : Addr} {fd_is_within : FuncData} {f : Addr} {fd : FuncData} {dvs : List V} (F : FunD K "is_point" "is_point" (defArgs s_is_point) (defBody s_is_point) (defScope s_is_point) dvs [] f fd) (hm : mg "is_point" = some (.ref f)) (z_all : mg "all" = none) (z_isinstance : mg "isinstance" = none) (z_len : mg "len" = none) (z_tuple : mg "tuple" = none) (F_is_within : FnG P w K mg base "is_within" f_is_within fd_is_within P_is_within 2 m_is_within) (b_is_within : L2.Binds K fd_is_within P_is_within []) : FnG P w K mg base "is_point" f fd P_is_point 3 m_is_point := by
  refine fn_okD F sc_is_point hm fun cdv A outer s H E C => ?_
  have hc := C.calm; have hp := own_of (P := P) (w := w) (K := K) (mg := mg) (base := base) (N := N_is_point) (qual := "is_point") (scope := defScope s_is_point) (f := f) (cd := cdv) (A := A) (outer := outer) (s := s) (H := H) (E := E)
  exact xss_cons (xs_ret (xe_and (xe_isi kit_tuple (by rfl) z_isinstance (by rfl) z_tuple (by rfl) (xe_var (pv 0))) (xe_and (xe_cmp (os_eq C.u64) (xe_callB (cs_len) (by rfl) z_len (by rfl) (xa_cons (xe_var (pv 0)) (xa_nil))) (xe_int)) (xe_one (xe_callB (cs_all hc) (by rfl) z_all (by rfl) (xa_cons (XN.lst (xn_comp (own := [("item", 2)]) hc sc_is_point.nd (xi_val (xe_var (pv 0))) (blkOk_by (own := [("item", 2)]) (N := N_is_point) (sc := defScope s_is_point) (by decide +kernel)) (fun s1 H1 _ _ _ => xg_name (pg_name (i := 2) sc_is_point.nd rfl (.inl rfl))) (fun s1 H1 _ _ _ => xts_nil) (fun s1 H1 _ _ _ => xe_call F_is_within b_is_within C.blk (by decide) (by rfl) (xa_cons (xe_var (pv 2)) (xa_cons (xe_neg (xe_var (pv 1))) (xa_cons (xe_var (pv 1)) (xa_nil))))) (by decide))) (xa_nil))))))) (xss_nil)
theorem ok_det  {f : Addr} {fd : FuncData} (F : FunD K "det" "det" (defArgs s_det) (defBody s_det) (defScope s_det) [] [] f fd) (hm : mg "det" = some (.ref f))  : FnG P w K mg base "det" f fd P_det 1 m_det := by
  refine fn_okD F sc_det hm fun cdv A outer s H E C => ?_
  have hc := C.calm; have hp := own_of (P := P) (w := w) (K := K) (mg := mg) (base := base) (N := N_det) (qual := "det") (scope := defScope s_det) (f := f) (cd := cdv) (A := A) (outer := outer) (s := s) (H := H) (E := E)
  exact xss_cons (xs_ret (xe_op os_sub (xe_op os_mul (xe_ix (xe_var (pv 0)) (xe_int) (fun _ _ => rfl)) (xe_ix (xe_var (pv 1)) (xe_int) (fun _ _ => rfl))) (xe_op os_mul (xe_ix (xe_var (pv 0)) (xe_int) (fun _ _ => rfl)) (xe_ix (xe_var (pv 1)) (xe_int) (fun _ _ => rfl))))) (xss_nil)
theorem ok_minus  {f : Addr} {fd : FuncData} (F : FunD K "minus" "minus" (defArgs s_minus) (defBody s_minus) (defScope s_minus) [] [] f fd) (hm : mg "minus" = some (.ref f))  : FnG P w K mg base "minus" f fd P_minus 1 m_minus := by
  refine fn_okD F sc_minus hm fun cdv A outer s H E C => ?_
  have hc := C.calm; have hp := own_of (P := P) (w := w) (K := K) (mg := mg) (base := base) (N := N_minus) (qual := "minus") (scope := defScope s_minus) (f := f) (cd := cdv) (A := A) (outer := outer) (s := s) (H := H) (E := E)
  exact xss_cons (xs_ret (xe_tup (xa_cons (xe_op os_sub (xe_ix (xe_var (pv 0)) (xe_int) (fun _ _ => rfl)) (xe_ix (xe_var (pv 1)) (xe_int) (fun _ _ => rfl))) (xa_cons (xe_op os_sub (xe_ix (xe_var (pv 0)) (xe_int) (fun _ _ => rfl)) (xe_ix (xe_var (pv 1)) (xe_int) (fun _ _ => rfl))) (xa_nil))))) (xss_nil)
theorem ok_sides {f_minus : Addr} {fd_minus : FuncData} {f : Addr} {fd : FuncData} (F : FunD K "sides" "sides" (defArgs s_sides) (defBody s_sides) (defScope s_sides) [] [] f fd) (hm : mg "sides" = some (.ref f)) (z_enumerate : mg "enumerate" = none) (z_len : mg "len" = none) (F_minus : FnG P w K mg base "minus" f_minus fd_minus P_minus 1 m_minus) (b_minus : L2.Binds K fd_minus P_minus []) : FnG P w K mg base "sides" f fd P_sides 2 m_sides := by
  refine fn_okD F sc_sides hm fun cdv A outer s H E C => ?_
  have hc := C.calm; have hp := own_of (P := P) (w := w) (K := K) (mg := mg) (base := base) (N := N_sides) (qual := "sides") (scope := defScope s_sides) (f := f) (cd := cdv) (A := A) (outer := outer) (s := s) (H := H) (E := E)
  exact xss_cons (xs_ret (XN.lst (xn_comp (own := [("place", 1), ("corner", 2)]) hc sc_sides.nd (xi_enum (by rfl) z_enumerate (xa_cons (xe_var (pv 0)) (xa_nil))) (blkOk_by (own := [("place", 1), ("corner", 2)]) (N := N_sides) (sc := defScope s_sides) (by decide +kernel)) (fun s1 H1 _ _ _ => xg_seq hc (xgs_cons (xg_name (pg_name (i := 1) sc_sides.nd rfl (.inl rfl))) (xgs_cons (xg_name (pg_name (i := 2) sc_sides.nd rfl (.inl rfl))) (xgs_nil))) (hl := tgCons_len (tgCons_len (tgNil_len)))) (fun s1 H1 _ _ _ => xts_nil) (fun s1 H1 _ _ _ => xe_call F_minus b_minus C.blk (by decide) (by rfl) (xa_cons (xe_ix (xe_var (pv 0)) (xe_op os_mod (xe_op os_add (xe_var (pv 1)) (xe_int)) (xe_callB (cs_len) (by rfl) z_len (by rfl) (xa_cons (xe_var (pv 0)) (xa_nil)))) (fun _ _ => rfl)) (xa_cons (xe_var (pv 2)) (xa_nil)))) (by decide)))) (xss_nil)
theorem ok_first_bend {f_det : Addr} {fd_det : FuncData} {f_sides : Addr} {fd_sides : FuncData} {f : Addr} {fd : FuncData} (F : FunD K "first_bend" "first_bend" (defArgs s_first_bend) (defBody s_first_bend) (defScope s_first_bend) [] [] f fd) (hm : mg "first_bend" = some (.ref f)) (z_enumerate : mg "enumerate" = none) (F_det : FnG P w K mg base "det" f_det fd_det P_det 1 m_det) (b_det : L2.Binds K fd_det P_det []) (F_sides : FnG P w K mg base "sides" f_sides fd_sides P_sides 2 m_sides) (b_sides : L2.Binds K fd_sides P_sides []) : FnG P w K mg base "first_bend" f fd P_first_bend 3 m_first_bend := by
  refine fn_okD F sc_first_bend hm fun cdv A outer s H E C => ?_
  have hc := C.calm; have hp := own_of (P := P) (w := w) (K := K) (mg := mg) (base := base) (N := N_first_bend) (qual := "first_bend") (scope := defScope s_first_bend) (f := f) (cd := cdv) (A := A) (outer := outer) (s := s) (H := H) (E := E)
  exact xss_cons (xs_asg (xe_call F_sides b_sides C (by decide) (by rfl) (xa_cons (xe_var (pv 0)) (xa_nil))) (xg_name (pg_name (i := 1) sc_first_bend.nd rfl (.inl rfl)))) (xss_cons (xs_for hp hc (xi_enum (by rfl) z_enumerate (xa_cons (xe_var (pv 1)) (xa_nil))) (xg_seq hc (xgs_cons (xg_name (pg_name (i := 2) sc_first_bend.nd rfl (.inl rfl))) (xgs_cons (xg_name (pg_name (i := 3) sc_first_bend.nd rfl (.inl rfl))) (xgs_nil))) (hl := tgCons_len (tgCons_len (tgNil_len)))) (xss_cons (xs_if (xt_cmp (os_le) (xe_call F_det b_det C (by decide) (by rfl) (xa_cons (xe_ix (xe_var (pv 1)) (xe_op os_sub (xe_var (pv 2)) (xe_int)) (fun _ _ => rfl)) (xa_cons (xe_var (pv 3)) (xa_nil)))) (xe_int)) (xss_cons (xs_ret (xe_var (pv 2))) (xss_nil)) (xss_nil)) (xss_nil))) (xss_cons (xs_ret (xe_non)) (xss_nil)))
theorem ok_is_upper  {f : Addr} {fd : FuncData} (F : FunD K "is_upper" "is_upper" (defArgs s_is_upper) (defBody s_is_upper) (defScope s_is_upper) [] [] f fd) (hm : mg "is_upper" = some (.ref f))  : FnG P w K mg base "is_upper" f fd P_is_upper 1 m_is_upper := by
  refine fn_okD F sc_is_upper hm fun cdv A outer s H E C => ?_
  have hc := C.calm; have hp := own_of (P := P) (w := w) (K := K) (mg := mg) (base := base) (N := N_is_upper) (qual := "is_upper") (scope := defScope s_is_upper) (f := f) (cd := cdv) (A := A) (outer := outer) (s := s) (H := H) (E := E)
  exact xss_cons (xs_ret (xe_or (xe_cmp (os_gt) (xe_ix (xe_var (pv 0)) (xe_int) (fun _ _ => rfl)) (xe_int)) (xe_one (xe_and (xe_cmp (os_eq C.u64) (xe_ix (xe_var (pv 0)) (xe_int) (fun _ _ => rfl)) (xe_int)) (xe_one (xe_cmp (os_gt) (xe_ix (xe_var (pv 0)) (xe_int) (fun _ _ => rfl)) (xe_int))))))) (xss_nil)
theorem ok_rounds {f_is_upper : Addr} {fd_is_upper : FuncData} {f_sides : Addr} {fd_sides : FuncData} {f : Addr} {fd : FuncData} (F : FunD K "rounds" "rounds" (defArgs s_rounds) (defBody s_rounds) (defScope s_rounds) [] [] f fd) (hm : mg "rounds" = some (.ref f)) (z_enumerate : mg "enumerate" = none) (z_len : mg "len" = none) (F_is_upper : FnG P w K mg base "is_upper" f_is_upper fd_is_upper P_is_upper 1 m_is_upper) (b_is_upper : L2.Binds K fd_is_upper P_is_upper []) (F_sides : FnG P w K mg base "sides" f_sides fd_sides P_sides 2 m_sides) (b_sides : L2.Binds K fd_sides P_sides []) : FnG P w K mg base "rounds" f fd P_rounds 3 m_rounds := by
  refine fn_okD F sc_rounds hm fun cdv A outer s H E C => ?_
  have hc := C.calm; have hp := own_of (P := P) (w := w) (K := K) (mg := mg) (base := base) (N := N_rounds) (qual := "rounds") (scope := defScope s_rounds) (f := f) (cd := cdv) (A := A) (outer := outer) (s := s) (H := H) (E := E)
  exact xss_cons (xs_asg (XN.lst (xn_comp (own := [("side", 2)]) hc sc_rounds.nd (xi_val (xe_call F_sides b_sides C (by decide) (by rfl) (xa_cons (xe_var (pv 0)) (xa_nil)))) (blkOk_by (own := [("side", 2)]) (N := N_rounds) (sc := defScope s_rounds) (by decide +kernel)) (fun s1 H1 _ _ _ => xg_name (pg_name (i := 2) sc_rounds.nd rfl (.inl rfl))) (fun s1 H1 _ _ _ => xts_nil) (fun s1 H1 _ _ _ => xe_call F_is_upper b_is_upper C.blk (by decide) (by rfl) (xa_cons (xe_var (pv 2)) (xa_nil))) (by decide))) (xg_name (pg_name (i := 1) sc_rounds.nd rfl (.inr rfl)))) (xss_cons (xs_ret (xe_callB (cs_len) (by rfl) z_len (by rfl) (xa_cons (XN.lst (xn_comp (own := [("place", 3), ("one", 4)]) hc sc_rounds.nd (xi_enum (by rfl) z_enumerate (xa_cons (xe_var (pv 1)) (xa_nil))) (blkOk_by (own := [("place", 3), ("one", 4)]) (N := N_rounds) (sc := defScope s_rounds) (by decide +kernel)) (fun s1 H1 _ _ _ => xg_seq hc (xgs_cons (xg_name (pg_name (i := 3) sc_rounds.nd rfl (.inl rfl))) (xgs_cons (xg_name (pg_name (i := 4) sc_rounds.nd rfl (.inl rfl))) (xgs_nil))) (hl := tgCons_len (tgCons_len (tgNil_len)))) (fun s1 H1 _ _ _ => xts_one (XW.xt (xw_and (xt_val (xe_var (pv 4))) (xw_and1 (xt_not (xt_val (xe_ix (xe_var (pv 1)) (xe_op os_sub (xe_var (pv 3)) (xe_int)) (fun _ _ => rfl)))))))) (fun s1 H1 _ _ _ => xe_var (pv 3)) (by decide))) (xa_nil)))) (xss_nil))
theorem ok_polygon_error {f_first_bend : Addr} {fd_first_bend : FuncData} {f_is_point : Addr} {fd_is_point : FuncData} {f_rounds : Addr} {fd_rounds : FuncData} {f : Addr} {fd : FuncData} (F : FunD K "polygon_error" "polygon_error" (defArgs s_polygon_error) (defBody s_polygon_error) (defScope s_polygon_error) [] [] f fd) (hm : mg "polygon_error" = some (.ref f)) (z_enumerate : mg "enumerate" = none) (z_isinstance : mg "isinstance" = none) (z_len : mg "len" = none) (z_min : mg "min" = none) (z_tuple : mg "tuple" = none) (g_MAX_CORNERS : GInt mg "MAX_CORNERS" 12) (F_first_bend : FnG P w K mg base "first_bend" f_first_bend fd_first_bend P_first_bend 3 m_first_bend) (b_first_bend : L2.Binds K fd_first_bend P_first_bend []) (F_is_point : FnG P w K mg base "is_point" f_is_point fd_is_point P_is_point 3 m_is_point) (b_is_point : L2.Binds K fd_is_point P_is_point []) (F_rounds : FnG P w K mg base "rounds" f_rounds fd_rounds P_rounds 3 m_rounds) (b_rounds : L2.Binds K fd_rounds P_rounds []) (d_is_point_1 : DflOk K fd_is_point P_is_point [.int (1000000)]) : FnG P w K mg base "polygon_error" f fd P_polygon_error 4 m_polygon_error := by
  refine fn_okD F sc_polygon_error hm fun cdv A outer s H E C => ?_
  have hc := C.calm; have hp := own_of (P := P) (w := w) (K := K) (mg := mg) (base := base) (N := N_polygon_error) (qual := "polygon_error") (scope := defScope s_polygon_error) (f := f) (cd := cdv) (A := A) (outer := outer) (s := s) (H := H) (E := E)
  exact xss_cons (xs_if (XW.xt (xw_or (xt_not (xt_val (xe_isi kit_tuple (by rfl) z_isinstance (by rfl) z_tuple (by rfl) (xe_var (pv 0))))) (xw_or1 (xt_not (xt_chain (os_le) (os_le) (xe_int) (xe_callB (cs_len) (by rfl) z_len (by rfl) (xa_cons (xe_var (pv 0)) (xa_nil))) (xe_gint (by rfl) g_MAX_CORNERS)))))) (xss_cons (xs_ret (xe_str)) (xss_nil)) (xss_nil)) (xss_cons (xs_for hp hc (xi_enum (by rfl) z_enumerate (xa_cons (xe_var (pv 0)) (xa_nil))) (xg_seq hc (xgs_cons (xg_name (pg_name (i := 1) sc_polygon_error.nd rfl (.inl rfl))) (xgs_cons (xg_name (pg_name (i := 2) sc_polygon_error.nd rfl (.inl rfl))) (xgs_nil))) (hl := tgCons_len (tgCons_len (tgNil_len)))) (xss_cons (xs_if (xt_not (xt_val (xe_callDH F_is_point d_is_point_1 C (by decide) (by rfl) (xa_cons (xe_var (pv 2)) (xa_nil))))) (xss_cons (xs_ret (xe_tup (xa_cons (xe_str) (xa_cons (xe_var (pv 1)) (xa_nil))))) (xss_nil)) (xss_nil)) (xss_nil))) (xss_cons (xs_asg (xe_call F_first_bend b_first_bend C (by decide) (by rfl) (xa_cons (xe_var (pv 0)) (xa_nil))) (xg_name (pg_name (i := 3) sc_polygon_error.nd rfl (.inl rfl)))) (xss_cons (xs_if (xt_notN (xe_var (pv 3))) (xss_cons (xs_ret (xe_tup (xa_cons (xe_str) (xa_cons (xe_var (pv 3)) (xa_nil))))) (xss_nil)) (xss_nil)) (xss_cons (xs_if (xt_cmp (os_ne C.u64) (xe_call F_rounds b_rounds C (by decide) (by rfl) (xa_cons (xe_var (pv 0)) (xa_nil))) (xe_int)) (xss_cons (xs_ret (xe_str)) (xss_nil)) (xss_nil)) (xss_cons (xs_ret (xe_if (xt_cmp (os_eq C.u64) (xe_ix (xe_var (pv 0)) (xe_int) (fun _ _ => rfl)) (xe_callB (cs_minT hc C.u2) (by rfl) z_min (by rfl) (xa_cons (xe_var (pv 0)) (xa_nil)))) (xe_non) (xe_str))) (xss_nil))))))
theorem ok_is_item {f_frame_error : Addr} {fd_frame_error : FuncData} {f_is_name : Addr} {fd_is_name : FuncData} {f_is_point : Addr} {fd_is_point : FuncData} {f_is_within : Addr} {fd_is_within : FuncData} {f_polygon_error : Addr} {fd_polygon_error : FuncData} {f : Addr} {fd : FuncData} (F : FunD K "is_item" "is_item" (defArgs s_is_item) (defBody s_is_item) (defScope s_is_item) [] [] f fd) (hm : mg "is_item" = some (.ref f)) (g_MAX_CORNERS : GInt mg "MAX_CORNERS" 12) (g_MAX_SCALE : GInt mg "MAX_SCALE" 100) (F_frame_error : FnG P w K mg base "frame_error" f_frame_error fd_frame_error P_frame_error 3 m_frame_error) (b_frame_error : L2.Binds K fd_frame_error P_frame_error []) (F_is_name : FnG P w K mg base "is_name" f_is_name fd_is_name P_is_name 1 m_is_name) (b_is_name : L2.Binds K fd_is_name P_is_name []) (F_is_point : FnG P w K mg base "is_point" f_is_point fd_is_point P_is_point 3 m_is_point) (b_is_point : L2.Binds K fd_is_point P_is_point []) (F_is_within : FnG P w K mg base "is_within" f_is_within fd_is_within P_is_within 2 m_is_within) (b_is_within : L2.Binds K fd_is_within P_is_within []) (F_polygon_error : FnG P w K mg base "polygon_error" f_polygon_error fd_polygon_error P_polygon_error 4 m_polygon_error) (b_polygon_error : L2.Binds K fd_polygon_error P_polygon_error []) (d_is_point_1 : DflOk K fd_is_point P_is_point [.int (1000000)]) : FnG P w K mg base "is_item" f fd P_is_item 5 m_is_item := by
  refine fn_okD F sc_is_item hm fun cdv A outer s H E C => ?_
  have hc := C.calm; have hp := own_of (P := P) (w := w) (K := K) (mg := mg) (base := base) (N := N_is_item) (qual := "is_item") (scope := defScope s_is_item) (f := f) (cd := cdv) (A := A) (outer := outer) (s := s) (H := H) (E := E)
  exact xss_cons (xs_if (xt_cmp (os_eq C.u64) (xe_var (pv 0)) (xe_str)) (xss_cons (xs_ret (xe_call F_is_name b_is_name C (by decide) (by rfl) (xa_cons (xe_var (pv 1)) (xa_nil)))) (xss_nil)) (xss_nil)) (xss_cons (xs_if (xt_cmp (os_eq C.u64) (xe_var (pv 0)) (xe_str)) (xss_cons (xs_ret (xe_isN (xe_call F_polygon_error b_polygon_error C (by decide) (by rfl) (xa_cons (xe_var (pv 1)) (xa_nil))))) (xss_nil)) (xss_nil)) (xss_cons (xs_if (xt_cmp (os_eq C.u64) (xe_var (pv 0)) (xe_str)) (xss_cons (xs_ret (xe_isN (xe_call F_frame_error b_frame_error C (by decide) (by rfl) (xa_cons (xe_var (pv 1)) (xa_nil))))) (xss_nil)) (xss_nil)) (xss_cons (xs_if (xt_cmp (os_eq C.u64) (xe_var (pv 0)) (xe_str)) (xss_cons (xs_ret (xe_callDH F_is_point d_is_point_1 C (by decide) (by rfl) (xa_cons (xe_var (pv 1)) (xa_nil)))) (xss_nil)) (xss_nil)) (xss_cons (xs_ret (xe_if (xt_cmp (os_eq C.u64) (xe_var (pv 0)) (xe_str)) (xe_call F_is_within b_is_within C (by decide) (by rfl) (xa_cons (xe_var (pv 1)) (xa_cons (xe_int) (xa_cons (xe_op os_sub (xe_gint (by rfl) g_MAX_CORNERS) (xe_int)) (xa_nil))))) (xe_call F_is_within b_is_within C (by decide) (by rfl) (xa_cons (xe_var (pv 1)) (xa_cons (xe_int) (xa_cons (xe_gint (by rfl) g_MAX_SCALE) (xa_nil))))))) (xss_nil)))))
theorem ok_edit_error {f_is_item : Addr} {fd_is_item : FuncData} {f : Addr} {fd : FuncData} (F : FunD K "edit_error" "edit_error" (defArgs s_edit_error) (defBody s_edit_error) (defScope s_edit_error) [] [] f fd) (hm : mg "edit_error" = some (.ref f)) (z_enumerate : mg "enumerate" = none) (z_isinstance : mg "isinstance" = none) (z_len : mg "len" = none) (z_str : mg "str" = none) (z_tuple : mg "tuple" = none) (g_SORTS : GTab K w mg "SORTS" t_SORTS) (F_is_item : FnG P w K mg base "is_item" f_is_item fd_is_item P_is_item 5 m_is_item) (b_is_item : L2.Binds K fd_is_item P_is_item []) : FnG P w K mg base "edit_error" f fd P_edit_error 6 m_edit_error := by
  refine fn_okD F sc_edit_error hm fun cdv A outer s H E C => ?_
  have hc := C.calm; have hp := own_of (P := P) (w := w) (K := K) (mg := mg) (base := base) (N := N_edit_error) (qual := "edit_error") (scope := defScope s_edit_error) (f := f) (cd := cdv) (A := A) (outer := outer) (s := s) (H := H) (E := E)
  exact xss_cons (xs_if (XW.xt (xw_or (xt_not (xt_val (xe_isi kit_tuple (by rfl) z_isinstance (by rfl) z_tuple (by rfl) (xe_var (pv 0))))) (xw_or (xt_cmp (os_eq C.u64) (xe_var (pv 0)) (xe_tup (xa_nil))) (xw_or1 (xt_not (xt_val (xe_isi kit_str (by rfl) z_isinstance (by rfl) z_str (by rfl) (xe_ix (xe_var (pv 0)) (xe_int) (fun _ _ => rfl))))))))) (xss_cons (xs_ret (xe_str)) (xss_nil)) (xss_nil)) (xss_cons (xs_if (xt_tabNotIn (by rfl) g_SORTS (xe_ix (xe_var (pv 0)) (xe_int) (fun _ _ => rfl))) (xss_cons (xs_ret (xe_str)) (xss_nil)) (xss_nil)) (xss_cons (xs_asg (xe_tab (by rfl) g_SORTS (xe_ix (xe_var (pv 0)) (xe_int) (fun _ _ => rfl))) (xg_name (pg_name (i := 1) sc_edit_error.nd rfl (.inl rfl)))) (xss_cons (xs_if (xt_cmp (os_ne C.u64) (xe_callB (cs_len) (by rfl) z_len (by rfl) (xa_cons (xe_var (pv 0)) (xa_nil))) (xe_op os_add (xe_callB (cs_len) (by rfl) z_len (by rfl) (xa_cons (xe_var (pv 1)) (xa_nil))) (xe_int))) (xss_cons (xs_ret (xe_str)) (xss_nil)) (xss_nil)) (xss_cons (xs_for hp hc (xi_enum (by rfl) z_enumerate (xa_cons (xe_var (pv 1)) (xa_nil))) (xg_seq hc (xgs_cons (xg_name (pg_name (i := 2) sc_edit_error.nd rfl (.inl rfl))) (xgs_cons (xg_name (pg_name (i := 3) sc_edit_error.nd rfl (.inl rfl))) (xgs_nil))) (hl := tgCons_len (tgCons_len (tgNil_len)))) (xss_cons (xs_if (xt_not (xt_val (xe_call F_is_item b_is_item C (by decide) (by rfl) (xa_cons (xe_var (pv 3)) (xa_cons (xe_ix (xe_var (pv 0)) (xe_op os_add (xe_var (pv 2)) (xe_int)) (fun _ _ => rfl)) (xa_nil)))))) (xss_cons (xs_ret (xe_tup (xa_cons (xe_str) (xa_cons (xe_op os_add (xe_var (pv 2)) (xe_int)) (xa_nil))))) (xss_nil)) (xss_nil)) (xss_nil))) (xss_cons (xs_ret (xe_non)) (xss_nil))))))
theorem ok__law_is_right {f__law_edit_fault : Addr} {fd__law_edit_fault : FuncData} {f_edit_error : Addr} {fd_edit_error : FuncData} {f : Addr} {fd : FuncData} (F : FunD K "_law_is_right" "_law_is_right" (defArgs s__law_is_right) (defBody s__law_is_right) (defScope s__law_is_right) [] [] f fd) (hm : mg "_law_is_right" = some (.ref f)) (z_repr : mg "repr" = none) (F__law_edit_fault : FnG P w K mg base "_law_edit_fault" f__law_edit_fault fd__law_edit_fault P__law_edit_fault 5 m__law_edit_fault) (b__law_edit_fault : L2.Binds K fd__law_edit_fault P__law_edit_fault []) (F_edit_error : FnG P w K mg base "edit_error" f_edit_error fd_edit_error P_edit_error 6 m_edit_error) (b_edit_error : L2.Binds K fd_edit_error P_edit_error []) (k_edit_error_0_value : KBnP K fd_edit_error P_edit_error 0 ["value"] [0]) : FnG P w K mg base "_law_is_right" f fd P__law_is_right 7 m__law_is_right := by
  refine fn_okD F sc__law_is_right hm fun cdv A outer s H E C => ?_
  have hc := C.calm; have hp := own_of (P := P) (w := w) (K := K) (mg := mg) (base := base) (N := N__law_is_right) (qual := "_law_is_right") (scope := defScope s__law_is_right) (f := f) (cd := cdv) (A := A) (outer := outer) (s := s) (H := H) (E := E)
  exact xss_cons (xs_par (i := 1) (j := 2) hc sc__law_is_right.nd rfl rfl (by decide) rfl rfl (xa_cons (xe_callB (cs_repr C.gd C.u70) (by rfl) z_repr (by rfl) (xa_cons (xe_var (pv 0)) (xa_nil))) (xa_cons (xe_call F__law_edit_fault b__law_edit_fault C (by decide) (by rfl) (xa_cons (xe_var (pv 0)) (xa_nil))) (xa_nil)))) (xss_cons (xs_ret (xe_and (xe_cmp (os_eq C.u64) (xe_callB (cs_repr C.gd C.u70) (by rfl) z_repr (by rfl) (xa_cons (XN.lst (xn_lst (xa_cons (xe_call F_edit_error b_edit_error C (by decide) (by rfl) (xa_cons (xe_var (pv 0)) (xa_nil))) (xa_cons (xe_callP0 F_edit_error k_edit_error_0_value C (by decide) (by rfl) (xk_cons (xe_var (pv 0)) (xk_nil))) (xa_nil))))) (xa_nil))) (xe_callB (cs_repr C.gd C.u70) (by rfl) z_repr (by rfl) (xa_cons (XN.lst (xn_lst (xa_cons (xe_var (pv 2)) (xa_cons (xe_var (pv 2)) (xa_nil))))) (xa_nil)))) (xe_one (xe_cmp (os_eq C.u64) (xe_callB (cs_repr C.gd C.u70) (by rfl) z_repr (by rfl) (xa_cons (xe_var (pv 0)) (xa_nil))) (xe_var (pv 1)))))) (xss_nil))
theorem ok__law_odd_edit {f__law_next : Addr} {fd__law_next : FuncData} {f__law_pick : Addr} {fd__law_pick : FuncData} {f : Addr} {fd : FuncData} (F : FunD K "_law_odd_edit" "_law_odd_edit" (defArgs s__law_odd_edit) (defBody s__law_odd_edit) (defScope s__law_odd_edit) [] [] f fd) (hm : mg "_law_odd_edit" = some (.ref f)) (z_len : mg "len" = none) (z_list : mg "list" = none) (F__law_next : FnG P w K mg base "_law_next" f__law_next fd__law_next P__law_next 1 m__law_next) (b__law_next : L2.Binds K fd__law_next P__law_next []) (F__law_pick : FnG P w K mg base "_law_pick" f__law_pick fd__law_pick P__law_pick 2 m__law_pick) (b__law_pick : L2.Binds K fd__law_pick P__law_pick []) : FnG P w K mg base "_law_odd_edit" f fd P__law_odd_edit 3 m__law_odd_edit := by
  refine fn_okD F sc__law_odd_edit hm fun cdv A outer s H E C => ?_
  have hc := C.calm; have hp := own_of (P := P) (w := w) (K := K) (mg := mg) (base := base) (N := N__law_odd_edit) (qual := "_law_odd_edit") (scope := defScope s__law_odd_edit) (f := f) (cd := cdv) (A := A) (outer := outer) (s := s) (H := H) (E := E)
  exact xss_cons (xs_asg (xe_call F__law_next b__law_next C (by decide) (by rfl) (xa_cons (xe_var (pv 0)) (xa_cons (xe_callB (cs_len) (by rfl) z_len (by rfl) (xa_cons (xe_var (pv 1)) (xa_nil))) (xa_nil)))) (xg_name (pg_name (i := 2) sc__law_odd_edit.nd rfl (.inl rfl)))) (xss_cons (xs_asg (XN.lst (xn_lst (xa_cons (xe_non) (xa_cons (xe_bl) (xa_cons (xe_bl) (xa_cons (xe_str) (xa_cons (xe_str) (xa_cons (xe_str) (xa_cons (xe_str) (xa_cons (xe_str) (xa_cons (xe_int) (xa_cons (xe_int) (xa_cons (xe_neg (xe_int)) (xa_cons (xe_int) (xa_cons (xe_int) (xa_cons (xe_int) (xa_cons (xe_int) (xa_cons (xe_tup (xa_cons (xe_int) (xa_cons (xe_int) (xa_nil)))) (xa_nil))))))))))))))))))) (xg_name (pg_name (i := 3) sc__law_odd_edit.nd rfl (.inl rfl)))) (xss_cons (xs_asg (XN.lst (xn_cat (xe_var (pv 3)) (XN.lst (xn_lst (xa_cons (xe_tup (xa_cons (xe_int) (xa_cons (xe_bl) (xa_nil)))) (xa_cons (xe_tup (xa_nil)) (xa_nil))))))) (xg_name (pg_name (i := 3) sc__law_odd_edit.nd rfl (.inl rfl)))) (xss_cons (xs_asg (XN.lst (xn_cat (xe_var (pv 3)) (XN.lst (xn_lst (xa_cons (XN.lst (xn_lst (xa_cons (xe_int) (xa_cons (xe_int) (xa_nil))))) (xa_cons (xe_tup (xa_cons (xe_int) (xa_cons (xe_int) (xa_nil)))) (xa_cons (xe_tup (xa_cons (xe_int) (xa_cons (xe_int) (xa_cons (xe_int) (xa_cons (xe_int) (xa_cons (xe_int) (xa_cons (xe_int) (xa_nil)))))))) (xa_cons (xe_tup (xa_cons (xe_int) (xa_cons (xe_int) (xa_cons (xe_int) (xa_cons (xe_int) (xa_cons (xe_int) (xa_nil))))))) (xa_cons (xe_tup (xa_cons (xe_int) (xa_cons (xe_int) (xa_cons (xe_int) (xa_cons (xe_int) (xa_cons (xe_int) (xa_cons (xe_int) (xa_nil)))))))) (xa_nil)))))))))) (xg_name (pg_name (i := 3) sc__law_odd_edit.nd rfl (.inl rfl)))) (xss_cons (xs_asg (XN.lst (xn_cat (xe_var (pv 3)) (XN.lst (xn_lst (xa_cons (xe_tup (xa_cons (xe_int) (xa_cons (xe_int) (xa_cons (xe_int) (xa_cons (xe_int) (xa_cons (xe_int) (xa_cons (xe_int) (xa_nil)))))))) (xa_nil)))))) (xg_name (pg_name (i := 3) sc__law_odd_edit.nd rfl (.inl rfl)))) (xss_cons (xs_asg (XN.lst (xn_cat (xe_var (pv 3)) (XN.lst (xn_lst (xa_cons (xe_tup (xa_cons (xe_tup (xa_cons (xe_int) (xa_cons (xe_int) (xa_nil)))) (xa_cons (xe_tup (xa_cons (xe_int) (xa_cons (xe_int) (xa_nil)))) (xa_cons (xe_tup (xa_cons (xe_int) (xa_cons (xe_int) (xa_nil)))) (xa_nil))))) (xa_cons (xe_tup (xa_cons (xe_tup (xa_cons (xe_int) (xa_cons (xe_int) (xa_nil)))) (xa_cons (xe_tup (xa_cons (xe_int) (xa_cons (xe_int) (xa_nil)))) (xa_nil)))) (xa_cons (xe_tup (xa_cons (xe_tup (xa_cons (xe_int) (xa_cons (xe_int) (xa_nil)))) (xa_cons (xe_tup (xa_cons (xe_int) (xa_cons (xe_int) (xa_nil)))) (xa_cons (xe_tup (xa_cons (xe_int) (xa_cons (xe_int) (xa_nil)))) (xa_nil))))) (xa_cons (XN.lst (xn_lst (xa_cons (xe_tup (xa_cons (xe_int) (xa_cons (xe_int) (xa_nil)))) (xa_cons (xe_tup (xa_cons (xe_int) (xa_cons (xe_int) (xa_nil)))) (xa_cons (xe_tup (xa_cons (xe_int) (xa_cons (xe_int) (xa_nil)))) (xa_nil)))))) (xa_nil))))))))) (xg_name (pg_name (i := 3) sc__law_odd_edit.nd rfl (.inl rfl)))) (xss_cons (xs_asg (XN.lst (xn_cat (xe_var (pv 3)) (XN.lst (xn_lst (xa_cons (xe_str) (xa_nil)))))) (xg_name (pg_name (i := 3) sc__law_odd_edit.nd rfl (.inl rfl)))) (xss_cons (xs_asg (XN.lst (xn_cat (xe_var (pv 3)) (XN.lst (xn_lst (xa_cons (xe_str) (xa_cons (xe_str) (xa_cons (xe_str) (xa_cons (xe_str) (xa_cons (xe_str) (xa_cons (xe_str) (xa_cons (xe_tup (xa_cons (xe_int) (xa_cons (xe_int) (xa_cons (xe_int) (xa_cons (xe_neg (xe_int)) (xa_cons (xe_int) (xa_cons (xe_neg (xe_int)) (xa_nil)))))))) (xa_cons (xe_op os_pow (xe_int) (xe_int)) (xa_cons (xe_str) (xa_cons (xe_newDf) (xa_nil))))))))))))))) (xg_name (pg_name (i := 3) sc__law_odd_edit.nd rfl (.inl rfl)))) (xss_cons (xs_asg (xe_op os_add (xe_op os_add (xe_slice (xe_var (pv 1)) (xo_none) (xo_some (xe_var (pv 2)))) (xe_tup (xa_cons (xe_call F__law_pick b__law_pick C (by decide) (by rfl) (xa_cons (xe_var (pv 0)) (xa_cons (xe_var (pv 3)) (xa_nil)))) (xa_nil)))) (xe_slice (xe_var (pv 1)) (xo_some (xe_op os_add (xe_var (pv 2)) (xe_int))) (xo_none))) (xg_name (pg_name (i := 4) sc__law_odd_edit.nd rfl (.inl rfl)))) (xss_cons (xs_asg (XN.lst (xn_lst (xa_cons (xe_var (pv 4)) (xa_cons (xe_var (pv 4)) (xa_cons (xe_var (pv 4)) (xa_cons (xe_var (pv 4)) (xa_cons (XN.lst (xn_callTy cn_list (by rfl) z_list (by rfl) (xa_cons (xe_var (pv 1)) (xa_nil)))) (xa_cons (xe_op os_add (xe_var (pv 1)) (xe_slice (xe_var (pv 1)) (xo_some (xe_neg (xe_int))) (xo_none))) (xa_cons (xe_slice (xe_var (pv 1)) (xo_none) (xo_some (xe_neg (xe_int)))) (xa_cons (xe_rev (xe_var (pv 1))) (xa_cons (xe_tup (xa_nil)) (xa_cons (xe_non) (xa_cons (xe_ix (xe_var (pv 1)) (xe_int) (fun _ _ => rfl)) (xa_nil)))))))))))))) (xg_name (pg_name (i := 5) sc__law_odd_edit.nd rfl (.inl rfl)))) (xss_cons (xs_asg (XN.lst (xn_cat (xe_var (pv 5)) (XN.lst (xn_lst (xa_cons (xe_tup (xa_cons (xe_var (pv 1)) (xa_nil))) (xa_nil)))))) (xg_name (pg_name (i := 5) sc__law_odd_edit.nd rfl (.inl rfl)))) (xss_cons (xs_ret (xe_call F__law_pick b__law_pick C (by decide) (by rfl) (xa_cons (xe_var (pv 0)) (xa_cons (xe_var (pv 5)) (xa_nil))))) (xss_nil))))))))))))
theorem ok_law {f__law_bounds : Addr} {fd__law_bounds : FuncData} {f__law_deck : Addr} {fd__law_deck : FuncData} {f__law_edit : Addr} {fd__law_edit : FuncData} {f__law_edit_fault : Addr} {fd__law_edit_fault : FuncData} {f__law_is_right : Addr} {fd__law_is_right : FuncData} {f__law_odd_edit : Addr} {fd__law_odd_edit : FuncData} {f : Addr} {fd : FuncData} (F : FunD K "law" "law" (defArgs s_law) (defBody s_law) (defScope s_law) [] [] f fd) (hm : mg "law" = some (.ref f)) (z_range : mg "range" = none) (F__law_bounds : FnG P w K mg base "_law_bounds" f__law_bounds fd__law_bounds P__law_bounds 3 m__law_bounds) (b__law_bounds : L2.Binds K fd__law_bounds P__law_bounds []) (F__law_deck : FnG P w K mg base "_law_deck" f__law_deck fd__law_deck P__law_deck 1 m__law_deck) (b__law_deck : L2.Binds K fd__law_deck P__law_deck []) (F__law_edit : FnG P w K mg base "_law_edit" f__law_edit fd__law_edit P__law_edit 5 m__law_edit) (b__law_edit : L2.Binds K fd__law_edit P__law_edit []) (F__law_edit_fault : FnG P w K mg base "_law_edit_fault" f__law_edit_fault fd__law_edit_fault P__law_edit_fault 5 m__law_edit_fault) (b__law_edit_fault : L2.Binds K fd__law_edit_fault P__law_edit_fault []) (F__law_is_right : FnG P w K mg base "_law_is_right" f__law_is_right fd__law_is_right P__law_is_right 7 m__law_is_right) (b__law_is_right : L2.Binds K fd__law_is_right P__law_is_right []) (F__law_odd_edit : FnG P w K mg base "_law_odd_edit" f__law_odd_edit fd__law_odd_edit P__law_odd_edit 3 m__law_odd_edit) (b__law_odd_edit : L2.Binds K fd__law_odd_edit P__law_odd_edit []) : FnG P w K mg base "law" f fd P_law 8 m_law := by
  refine fn_okD F sc_law hm fun cdv A outer s H E C => ?_
  have hc := C.calm; have hp := own_of (P := P) (w := w) (K := K) (mg := mg) (base := base) (N := N_law) (qual := "law") (scope := defScope s_law) (f := f) (cd := cdv) (A := A) (outer := outer) (s := s) (H := H) (E := E)
  exact xss_cons (xs_asg (xe_call F__law_deck b__law_deck C (by decide) (by rfl) (xa_cons (xe_var (pv 0)) (xa_nil))) (xg_name (pg_name (i := 1) sc_law.nd rfl (.inr rfl)))) (xss_cons (xs_asg (xe_disp (xp_cons (key := (.inr (PySem.Str.ofString "tent"))) pe_str (xe_tup (xa_cons (xe_tup (xa_cons (xe_int) (xa_cons (xe_int) (xa_nil)))) (xa_cons (xe_tup (xa_cons (xe_int) (xa_cons (xe_int) (xa_nil)))) (xa_cons (xe_tup (xa_cons (xe_int) (xa_cons (xe_int) (xa_nil)))) (xa_nil))))) (xp_cons (key := (.inr (PySem.Str.ofString "coin"))) pe_str (xe_tup (xa_cons (xe_tup (xa_cons (xe_neg (xe_int)) (xa_cons (xe_int) (xa_nil)))) (xa_cons (xe_tup (xa_cons (xe_int) (xa_cons (xe_neg (xe_int)) (xa_nil)))) (xa_cons (xe_tup (xa_cons (xe_int) (xa_cons (xe_int) (xa_nil)))) (xa_cons (xe_tup (xa_cons (xe_int) (xa_cons (xe_int) (xa_nil)))) (xa_nil)))))) (xp_nil)))) (xg_name (pg_name (i := 2) sc_law.nd rfl (.inl rfl)))) (xss_cons (xs_for hp hc (xi_range1 (by rfl) z_range (xa_cons (xe_int) (xa_nil))) (xg_name (pg_name (i := 3) sc_law.nd rfl (.inl rfl))) (xss_cons (xs_asg (xe_call F__law_edit b__law_edit C (by decide) (by rfl) (xa_cons (xe_var (pv 1)) (xa_cons (xe_var (pv 2)) (xa_nil)))) (xg_name (pg_name (i := 4) sc_law.nd rfl (.inr rfl)))) (xss_cons (xs_for hp hc (xi_val (XN.lst (xn_cat (XN.lst (xn_lst (xa_cons (xe_var (pv 4)) (xa_nil)))) (XN.lst (xn_comp (own := [("again", 6)]) hc sc_law.nd (xi_range1 (by rfl) z_range (xa_cons (xe_int) (xa_nil))) (blkOk_by (own := [("again", 6)]) (N := N_law) (sc := defScope s_law) (by decide +kernel)) (fun s1 H1 _ _ _ => xg_name (pg_name (i := 6) sc_law.nd rfl (.inl rfl))) (fun s1 H1 _ _ _ => xts_nil) (fun s1 H1 _ _ _ => xe_call F__law_odd_edit b__law_odd_edit C.blk (by decide) (by rfl) (xa_cons (xe_var (pv 1)) (xa_cons (xe_var (pv 4)) (xa_nil)))) (by decide)))))) (xg_name (pg_name (i := 5) sc_law.nd rfl (.inl rfl))) (xss_cons (xs_if (xt_not (xt_val (xe_call F__law_is_right b__law_is_right C (by decide) (by rfl) (xa_cons (xe_var (pv 5)) (xa_nil))))) (xss_cons (xs_ret (xe_bl)) (xss_nil)) (xss_nil)) (xss_nil))) (xss_nil)))) (xss_cons (xs_for hp hc (xi_val (xe_call F__law_bounds b__law_bounds C (by decide) (by rfl) (xa_cons (xe_var (pv 1)) (xa_nil)))) (xg_name (pg_name (i := 5) sc_law.nd rfl (.inl rfl))) (xss_cons (xs_if (xt_not (xt_val (xe_call F__law_is_right b__law_is_right C (by decide) (by rfl) (xa_cons (xe_var (pv 5)) (xa_nil))))) (xss_cons (xs_ret (xe_bl)) (xss_nil)) (xss_nil)) (xss_nil))) (xss_cons (xs_ret (xe_and (xe_isN (xe_call F__law_edit_fault b__law_edit_fault C (by decide) (by rfl) (xa_cons (xe_tup (xa_cons (xe_str) (xa_cons (xe_str) (xa_cons (xe_dget C.u1 (xe_var (pv 2)) (xe_str) (by first | trivial | rfl | intro _ _; rfl)) (xa_nil))))) (xa_nil)))) (xe_one (xe_call F__law_is_right b__law_is_right C (by decide) (by rfl) (xa_cons (xe_tup (xa_cons (xe_str) (xa_cons (xe_str) (xa_cons (xe_dget C.u1 (xe_var (pv 2)) (xe_str) (by first | trivial | rfl | intro _ _; rfl)) (xa_nil))))) (xa_nil)))))) (xss_nil)))))
end
def dd__law_next : He.DefD := ⟨("_law_next", none), "_law_next", "_law_next", defArgs s__law_next, defBody s__law_next, defScope s__law_next, [], []⟩
def dd__law_pick : He.DefD := ⟨("_law_pick", none), "_law_pick", "_law_pick", defArgs s__law_pick, defBody s__law_pick, defScope s__law_pick, [], []⟩
def dd__law_bounds : He.DefD := ⟨("_law_bounds", none), "_law_bounds", "_law_bounds", defArgs s__law_bounds, defBody s__law_bounds, defScope s__law_bounds, [], []⟩
def dd__law_deck : He.DefD := ⟨("_law_deck", none), "_law_deck", "_law_deck", defArgs s__law_deck, defBody s__law_deck, defScope s__law_deck, [], []⟩
def dd__law_frame : He.DefD := ⟨("_law_frame", none), "_law_frame", "_law_frame", defArgs s__law_frame, defBody s__law_frame, defScope s__law_frame, [], []⟩
def dd__law_names : He.DefD := ⟨("_law_names", none), "_law_names", "_law_names", defArgs s__law_names, defBody s__law_names, defScope s__law_names, [], []⟩
def dd__law_det : He.DefD := ⟨("_law_det", none), "_law_det", "_law_det", defArgs s__law_det, defBody s__law_det, defScope s__law_det, [], []⟩
def dd__law_bend : He.DefD := ⟨("_law_bend", none), "_law_bend", "_law_bend", defArgs s__law_bend, defBody s__law_bend, defScope s__law_bend, [], []⟩
def dd__law_hull : He.DefD := ⟨("_law_hull", none), "_law_hull", "_law_hull", defArgs s__law_hull, defBody s__law_hull, defScope s__law_hull, [], []⟩
def dd__law_polygon : He.DefD := ⟨("_law_polygon", none), "_law_polygon", "_law_polygon", defArgs s__law_polygon, defBody s__law_polygon, defScope s__law_polygon, [], []⟩
def dd__law_edit : He.DefD := ⟨("_law_edit", none), "_law_edit", "_law_edit", defArgs s__law_edit, defBody s__law_edit, defScope s__law_edit, [], []⟩
def dd__law_is_number : He.DefD := ⟨("_law_is_number", none), "_law_is_number", "_law_is_number", defArgs s__law_is_number, defBody s__law_is_number, defScope s__law_is_number, [], []⟩
def dd__law_is_frame : He.DefD := ⟨("_law_is_frame", none), "_law_is_frame", "_law_is_frame", defArgs s__law_is_frame, defBody s__law_is_frame, defScope s__law_is_frame, [], []⟩
def dd__law_is_from : He.DefD := ⟨("_law_is_from", none), "_law_is_from", "_law_is_from", defArgs s__law_is_from, defBody s__law_is_from, defScope s__law_is_from, [], []⟩
def dd__law_is_name : He.DefD := ⟨("_law_is_name", none), "_law_is_name", "_law_is_name", defArgs s__law_is_name, defBody s__law_is_name, defScope s__law_is_name, [], []⟩
def dd__law_is_pair : He.DefD := ⟨("_law_is_pair", none), "_law_is_pair", "_law_is_pair", defArgs s__law_is_pair, defBody s__law_is_pair, defScope s__law_is_pair, [], []⟩
def dd__law_is_below : He.DefD := ⟨("_law_is_below", none), "_law_is_below", "_law_is_below", defArgs s__law_is_below, defBody s__law_is_below, defScope s__law_is_below, [], []⟩
def dd__law_polygon_fault : He.DefD := ⟨("_law_polygon_fault", none), "_law_polygon_fault", "_law_polygon_fault", defArgs s__law_polygon_fault, defBody s__law_polygon_fault, defScope s__law_polygon_fault, [], []⟩
def dd__law_is_item : He.DefD := ⟨("_law_is_item", none), "_law_is_item", "_law_is_item", defArgs s__law_is_item, defBody s__law_is_item, defScope s__law_is_item, [], []⟩
def dd__law_edit_fault : He.DefD := ⟨("_law_edit_fault", none), "_law_edit_fault", "_law_edit_fault", defArgs s__law_edit_fault, defBody s__law_edit_fault, defScope s__law_edit_fault, [], []⟩
def dd_frame_det : He.DefD := ⟨("frame_det", none), "frame_det", "frame_det", defArgs s_frame_det, defBody s_frame_det, defScope s_frame_det, [], []⟩
def dd_is_number : He.DefD := ⟨("is_number", none), "is_number", "is_number", defArgs s_is_number, defBody s_is_number, defScope s_is_number, [], []⟩
def dd_is_within : He.DefD := ⟨("is_within", none), "is_within", "is_within", defArgs s_is_within, defBody s_is_within, defScope s_is_within, [], []⟩
def dd_frame_error : He.DefD := ⟨("frame_error", none), "frame_error", "frame_error", defArgs s_frame_error, defBody s_frame_error, defScope s_frame_error, [], []⟩
def dd_is_name : He.DefD := ⟨("is_name", none), "is_name", "is_name", defArgs s_is_name, defBody s_is_name, defScope s_is_name, [], []⟩
def dd_is_point : He.DefD := ⟨("is_point", none), "is_point", "is_point", defArgs s_is_point, defBody s_is_point, defScope s_is_point, [.int (1000000)], []⟩
def dd_det : He.DefD := ⟨("det", none), "det", "det", defArgs s_det, defBody s_det, defScope s_det, [], []⟩
def dd_minus : He.DefD := ⟨("minus", none), "minus", "minus", defArgs s_minus, defBody s_minus, defScope s_minus, [], []⟩
def dd_sides : He.DefD := ⟨("sides", none), "sides", "sides", defArgs s_sides, defBody s_sides, defScope s_sides, [], []⟩
def dd_first_bend : He.DefD := ⟨("first_bend", none), "first_bend", "first_bend", defArgs s_first_bend, defBody s_first_bend, defScope s_first_bend, [], []⟩
def dd_is_upper : He.DefD := ⟨("is_upper", none), "is_upper", "is_upper", defArgs s_is_upper, defBody s_is_upper, defScope s_is_upper, [], []⟩
def dd_rounds : He.DefD := ⟨("rounds", none), "rounds", "rounds", defArgs s_rounds, defBody s_rounds, defScope s_rounds, [], []⟩
def dd_polygon_error : He.DefD := ⟨("polygon_error", none), "polygon_error", "polygon_error", defArgs s_polygon_error, defBody s_polygon_error, defScope s_polygon_error, [], []⟩
def dd_is_item : He.DefD := ⟨("is_item", none), "is_item", "is_item", defArgs s_is_item, defBody s_is_item, defScope s_is_item, [], []⟩
def dd_edit_error : He.DefD := ⟨("edit_error", none), "edit_error", "edit_error", defArgs s_edit_error, defBody s_edit_error, defScope s_edit_error, [], []⟩
def dd__law_is_right : He.DefD := ⟨("_law_is_right", none), "_law_is_right", "_law_is_right", defArgs s__law_is_right, defBody s__law_is_right, defScope s__law_is_right, [], []⟩
def dd__law_odd_edit : He.DefD := ⟨("_law_odd_edit", none), "_law_odd_edit", "_law_odd_edit", defArgs s__law_odd_edit, defBody s__law_odd_edit, defScope s__law_odd_edit, [], []⟩
def dd_law : He.DefD := ⟨("law", none), "law", "law", defArgs s_law, defBody s_law, defScope s_law, [], []⟩
def fn0 : List He.DefD := [dd__law_next, dd__law_pick, dd__law_bounds, dd__law_deck, dd__law_frame, dd__law_names, dd__law_det, dd__law_bend, dd__law_hull, dd__law_polygon, dd__law_edit, dd__law_is_number, dd__law_is_frame, dd__law_is_from, dd__law_is_name, dd__law_is_pair, dd__law_is_below, dd__law_polygon_fault, dd__law_is_item, dd__law_edit_fault, dd_frame_det, dd_is_number, dd_is_within, dd_frame_error, dd_is_name, dd_is_point, dd_det, dd_minus, dd_sides, dd_first_bend]
def fn1 : List He.DefD := [dd_is_upper, dd_rounds, dd_polygon_error, dd_is_item, dd_edit_error, dd__law_is_right, dd__law_odd_edit, dd_law]
def fn : List He.DefD := fn0 ++ fn1
def fa0 : List He.Fa := [.glo "_law_next", .glo "_law_pick", .glo "_law_bounds", .glo "_law_deck", .glo "_law_frame", .glo "_law_names", .glo "_law_det", .glo "_law_bend", .glo "_law_hull", .glo "_law_polygon", .glo "_law_edit", .glo "_law_is_number", .glo "_law_is_frame", .glo "_law_is_from", .glo "_law_is_name", .glo "_law_is_pair", .glo "_law_is_below", .glo "_law_polygon_fault", .glo "_law_is_item", .glo "_law_edit_fault", .glo "frame_det", .glo "is_number", .glo "is_within", .glo "frame_error", .glo "is_name", .glo "is_point", .glo "det", .glo "minus", .glo "sides", .glo "first_bend"]
def fa1 : List He.Fa := [.glo "is_upper", .glo "rounds", .glo "polygon_error", .glo "is_item", .glo "edit_error", .glo "_law_is_right", .glo "_law_odd_edit", .glo "law", .free "abs", .free "all", .free "bool", .free "dict", .free "enumerate", .free "int", .free "isinstance", .free "len", .free "list", .free "max", .free "min", .free "range", .free "repr", .free "sorted", .free "str", .free "tuple", .int "MAX_CORNERS" (12), .int "MAX_SCALE" (100), .int "MAX_SIZE" (1000000), .int "MOST_SIGNS" (8), .glo "SORTS"]
def fa : List He.Fa := fa0 ++ fa1
def ts : List He.Tab := [(fun K => He.ga K "SORTS", ["put", "drop", "call", "move", "more", "less", "sum", "times"])]
def ex (K : PySem.W.Frag) : Bool := tabB K (He.ga K "SORTS") t_SORTS
abbrev R : PySem.W.OpenRow := PySem.W.OpenLaw.row PySem.Challenge.rw_gridloops_k92_what_edits_are
abbrev hk : PySem.W.Hook := He.hookX 4 fa fn ts [] ex
def ob (s : PySem.W.SharedT) : He.AlX := He.obsX 4 fa fn ts [] ex (HandSHeadRun.getT s)
theorem ob_eq (s : PySem.W.SharedT) : ob s = hk.obs s.abs := He.obsX_eq (HandSHeadRun.getT_eq s)
def loose0 : List PySem.Str := ["MAX_SIZE", "MAX_CORNERS", "MAX_SCALE", "is_number", "is_within", "is_point", "minus", "det", "is_upper", "frame_error", "frame_det", "polygon_error", "sides", "first_bend", "rounds", "SORTS", "MOST_SIGNS", "is_name", "is_item", "edit_error", "_law_deck", "_law_next", "_law_pick", "_law_det", "_law_bend", "_law_is_number", "_law_is_pair", "_law_frame", "_law_hull", "_law_is_below"]
def loose1 : List PySem.Str := ["_law_polygon_fault", "_law_is_from", "_law_is_name", "_law_is_frame", "_law_is_item", "_law_edit_fault", "_law_polygon", "_law_names", "_law_edit", "_law_odd_edit", "_law_is_right", "_law_bounds"]
def loose : List PySem.Str := loose0 ++ loose1
set_option maxHeartbeats 0 in
theorem run (w : World) : HandSHeadRun.RunEq R (PySem.W.view R.prog [47]) hk ob 4000 loose w :=
  PySem.W.byRow2 "special-get-raises" (P := fun w => HandSHeadRun.RunEq R (PySem.W.view R.prog [47]) hk ob 4000 loose w) (fun w => by intro os; kernel_rfl) (fun w => by intro os; kernel_rfl) w
theorem facts {P : Program} {w : World} {K : PySem.W.Frag} {h0 h : Heap} {mg : Str → Option Value} {f : Addr} (X : K.In h) (G : h.Ns mainGlobals mg) (hfa : mg ("law" : Str) = some (.ref f)) (c : He.SaysX fa fn ts [] ex w h0 K) :
    ∃ fd : FuncData, (∀ (s : Shared) (v : Value), BindsTo s fd ⟨[v], []⟩ [("script", v)]) ∧ ∀ base : Heap, FnG P w K mg base "law" f fd P_law 8 m_law := by
  obtain ⟨fd__law_next, D__law_next⟩ := c.t.d.def_ 0 (d := dd__law_next) rfl
  obtain ⟨fd__law_pick, D__law_pick⟩ := c.t.d.def_ 1 (d := dd__law_pick) rfl
  obtain ⟨fd__law_bounds, D__law_bounds⟩ := c.t.d.def_ 2 (d := dd__law_bounds) rfl
  obtain ⟨fd__law_deck, D__law_deck⟩ := c.t.d.def_ 3 (d := dd__law_deck) rfl
  obtain ⟨fd__law_frame, D__law_frame⟩ := c.t.d.def_ 4 (d := dd__law_frame) rfl
  obtain ⟨fd__law_names, D__law_names⟩ := c.t.d.def_ 5 (d := dd__law_names) rfl
  obtain ⟨fd__law_det, D__law_det⟩ := c.t.d.def_ 6 (d := dd__law_det) rfl
  obtain ⟨fd__law_bend, D__law_bend⟩ := c.t.d.def_ 7 (d := dd__law_bend) rfl
  obtain ⟨fd__law_hull, D__law_hull⟩ := c.t.d.def_ 8 (d := dd__law_hull) rfl
  obtain ⟨fd__law_polygon, D__law_polygon⟩ := c.t.d.def_ 9 (d := dd__law_polygon) rfl
  obtain ⟨fd__law_edit, D__law_edit⟩ := c.t.d.def_ 10 (d := dd__law_edit) rfl
  obtain ⟨fd__law_is_number, D__law_is_number⟩ := c.t.d.def_ 11 (d := dd__law_is_number) rfl
  obtain ⟨fd__law_is_frame, D__law_is_frame⟩ := c.t.d.def_ 12 (d := dd__law_is_frame) rfl
  obtain ⟨fd__law_is_from, D__law_is_from⟩ := c.t.d.def_ 13 (d := dd__law_is_from) rfl
  obtain ⟨fd__law_is_name, D__law_is_name⟩ := c.t.d.def_ 14 (d := dd__law_is_name) rfl
  obtain ⟨fd__law_is_pair, D__law_is_pair⟩ := c.t.d.def_ 15 (d := dd__law_is_pair) rfl
  obtain ⟨fd__law_is_below, D__law_is_below⟩ := c.t.d.def_ 16 (d := dd__law_is_below) rfl
  obtain ⟨fd__law_polygon_fault, D__law_polygon_fault⟩ := c.t.d.def_ 17 (d := dd__law_polygon_fault) rfl
  obtain ⟨fd__law_is_item, D__law_is_item⟩ := c.t.d.def_ 18 (d := dd__law_is_item) rfl
  obtain ⟨fd__law_edit_fault, D__law_edit_fault⟩ := c.t.d.def_ 19 (d := dd__law_edit_fault) rfl
  obtain ⟨fd_frame_det, D_frame_det⟩ := c.t.d.def_ 20 (d := dd_frame_det) rfl
  obtain ⟨fd_is_number, D_is_number⟩ := c.t.d.def_ 21 (d := dd_is_number) rfl
  obtain ⟨fd_is_within, D_is_within⟩ := c.t.d.def_ 22 (d := dd_is_within) rfl
  obtain ⟨fd_frame_error, D_frame_error⟩ := c.t.d.def_ 23 (d := dd_frame_error) rfl
  obtain ⟨fd_is_name, D_is_name⟩ := c.t.d.def_ 24 (d := dd_is_name) rfl
  obtain ⟨fd_is_point, D_is_point⟩ := c.t.d.def_ 25 (d := dd_is_point) rfl
  obtain ⟨fd_det, D_det⟩ := c.t.d.def_ 26 (d := dd_det) rfl
  obtain ⟨fd_minus, D_minus⟩ := c.t.d.def_ 27 (d := dd_minus) rfl
  obtain ⟨fd_sides, D_sides⟩ := c.t.d.def_ 28 (d := dd_sides) rfl
  obtain ⟨fd_first_bend, D_first_bend⟩ := c.t.d.def_ 29 (d := dd_first_bend) rfl
  obtain ⟨fd_is_upper, D_is_upper⟩ := c.t.d.def_ 30 (d := dd_is_upper) rfl
  obtain ⟨fd_rounds, D_rounds⟩ := c.t.d.def_ 31 (d := dd_rounds) rfl
  obtain ⟨fd_polygon_error, D_polygon_error⟩ := c.t.d.def_ 32 (d := dd_polygon_error) rfl
  obtain ⟨fd_is_item, D_is_item⟩ := c.t.d.def_ 33 (d := dd_is_item) rfl
  obtain ⟨fd_edit_error, D_edit_error⟩ := c.t.d.def_ 34 (d := dd_edit_error) rfl
  obtain ⟨fd__law_is_right, D__law_is_right⟩ := c.t.d.def_ 35 (d := dd__law_is_right) rfl
  obtain ⟨fd__law_odd_edit, D__law_odd_edit⟩ := c.t.d.def_ 36 (d := dd__law_odd_edit) rfl
  obtain ⟨fd_law, D_law⟩ := c.t.d.def_ 37 (d := dd_law) rfl
  have a__law_next := He.glo_ok X G (c.t.d.fact 0 (f := .glo "_law_next") rfl)
  have a__law_pick := He.glo_ok X G (c.t.d.fact 1 (f := .glo "_law_pick") rfl)
  have a__law_bounds := He.glo_ok X G (c.t.d.fact 2 (f := .glo "_law_bounds") rfl)
  have a__law_deck := He.glo_ok X G (c.t.d.fact 3 (f := .glo "_law_deck") rfl)
  have a__law_frame := He.glo_ok X G (c.t.d.fact 4 (f := .glo "_law_frame") rfl)
  have a__law_names := He.glo_ok X G (c.t.d.fact 5 (f := .glo "_law_names") rfl)
  have a__law_det := He.glo_ok X G (c.t.d.fact 6 (f := .glo "_law_det") rfl)
  have a__law_bend := He.glo_ok X G (c.t.d.fact 7 (f := .glo "_law_bend") rfl)
  have a__law_hull := He.glo_ok X G (c.t.d.fact 8 (f := .glo "_law_hull") rfl)
  have a__law_polygon := He.glo_ok X G (c.t.d.fact 9 (f := .glo "_law_polygon") rfl)
  have a__law_edit := He.glo_ok X G (c.t.d.fact 10 (f := .glo "_law_edit") rfl)
  have a__law_is_number := He.glo_ok X G (c.t.d.fact 11 (f := .glo "_law_is_number") rfl)
  have a__law_is_frame := He.glo_ok X G (c.t.d.fact 12 (f := .glo "_law_is_frame") rfl)
  have a__law_is_from := He.glo_ok X G (c.t.d.fact 13 (f := .glo "_law_is_from") rfl)
  have a__law_is_name := He.glo_ok X G (c.t.d.fact 14 (f := .glo "_law_is_name") rfl)
  have a__law_is_pair := He.glo_ok X G (c.t.d.fact 15 (f := .glo "_law_is_pair") rfl)
  have a__law_is_below := He.glo_ok X G (c.t.d.fact 16 (f := .glo "_law_is_below") rfl)
  have a__law_polygon_fault := He.glo_ok X G (c.t.d.fact 17 (f := .glo "_law_polygon_fault") rfl)
  have a__law_is_item := He.glo_ok X G (c.t.d.fact 18 (f := .glo "_law_is_item") rfl)
  have a__law_edit_fault := He.glo_ok X G (c.t.d.fact 19 (f := .glo "_law_edit_fault") rfl)
  have a_frame_det := He.glo_ok X G (c.t.d.fact 20 (f := .glo "frame_det") rfl)
  have a_is_number := He.glo_ok X G (c.t.d.fact 21 (f := .glo "is_number") rfl)
  have a_is_within := He.glo_ok X G (c.t.d.fact 22 (f := .glo "is_within") rfl)
  have a_frame_error := He.glo_ok X G (c.t.d.fact 23 (f := .glo "frame_error") rfl)
  have a_is_name := He.glo_ok X G (c.t.d.fact 24 (f := .glo "is_name") rfl)
  have a_is_point := He.glo_ok X G (c.t.d.fact 25 (f := .glo "is_point") rfl)
  have a_det := He.glo_ok X G (c.t.d.fact 26 (f := .glo "det") rfl)
  have a_minus := He.glo_ok X G (c.t.d.fact 27 (f := .glo "minus") rfl)
  have a_sides := He.glo_ok X G (c.t.d.fact 28 (f := .glo "sides") rfl)
  have a_first_bend := He.glo_ok X G (c.t.d.fact 29 (f := .glo "first_bend") rfl)
  have a_is_upper := He.glo_ok X G (c.t.d.fact 30 (f := .glo "is_upper") rfl)
  have a_rounds := He.glo_ok X G (c.t.d.fact 31 (f := .glo "rounds") rfl)
  have a_polygon_error := He.glo_ok X G (c.t.d.fact 32 (f := .glo "polygon_error") rfl)
  have a_is_item := He.glo_ok X G (c.t.d.fact 33 (f := .glo "is_item") rfl)
  have a_edit_error := He.glo_ok X G (c.t.d.fact 34 (f := .glo "edit_error") rfl)
  have a__law_is_right := He.glo_ok X G (c.t.d.fact 35 (f := .glo "_law_is_right") rfl)
  have a__law_odd_edit := He.glo_ok X G (c.t.d.fact 36 (f := .glo "_law_odd_edit") rfl)
  have a_law := He.glo_ok X G (c.t.d.fact 37 (f := .glo "law") rfl)
  have z_abs := He.free_ok X G (c.t.d.fact 38 (f := .free "abs") rfl)
  have z_all := He.free_ok X G (c.t.d.fact 39 (f := .free "all") rfl)
  have z_bool := He.free_ok X G (c.t.d.fact 40 (f := .free "bool") rfl)
  have z_dict := He.free_ok X G (c.t.d.fact 41 (f := .free "dict") rfl)
  have z_enumerate := He.free_ok X G (c.t.d.fact 42 (f := .free "enumerate") rfl)
  have z_int := He.free_ok X G (c.t.d.fact 43 (f := .free "int") rfl)
  have z_isinstance := He.free_ok X G (c.t.d.fact 44 (f := .free "isinstance") rfl)
  have z_len := He.free_ok X G (c.t.d.fact 45 (f := .free "len") rfl)
  have z_list := He.free_ok X G (c.t.d.fact 46 (f := .free "list") rfl)
  have z_max := He.free_ok X G (c.t.d.fact 47 (f := .free "max") rfl)
  have z_min := He.free_ok X G (c.t.d.fact 48 (f := .free "min") rfl)
  have z_range := He.free_ok X G (c.t.d.fact 49 (f := .free "range") rfl)
  have z_repr := He.free_ok X G (c.t.d.fact 50 (f := .free "repr") rfl)
  have z_sorted := He.free_ok X G (c.t.d.fact 51 (f := .free "sorted") rfl)
  have z_str := He.free_ok X G (c.t.d.fact 52 (f := .free "str") rfl)
  have z_tuple := He.free_ok X G (c.t.d.fact 53 (f := .free "tuple") rfl)
  have g_MAX_CORNERS := gint_of (He.int_ok X G (c.t.d.fact 54 (f := .int "MAX_CORNERS" (12)) rfl))
  have g_MAX_SCALE := gint_of (He.int_ok X G (c.t.d.fact 55 (f := .int "MAX_SCALE" (100)) rfl))
  have g_MAX_SIZE := gint_of (He.int_ok X G (c.t.d.fact 56 (f := .int "MAX_SIZE" (1000000)) rfl))
  have g_MOST_SIGNS := gint_of (He.int_ok X G (c.t.d.fact 57 (f := .int "MOST_SIGNS" (8)) rfl))
  have a_SORTS := He.glo_ok X G (c.t.d.fact 58 (f := .glo "SORTS") rfl)
  have g_SORTS : GTab K w mg "SORTS" t_SORTS := gtab_of a_SORTS (c.t.tab 0 (t := (fun K => He.ga K "SORTS", ["put", "drop", "call", "move", "more", "less", "sum", "times"])) rfl) c.more
  have e := hfa.symm.trans a_law
  cases e
  have b__law_next : L2.Binds K fd__law_next P__law_next [] := FunD.bindsN (ps := P__law_next) D__law_next fun _ _ _ _ _ _ us hl => match us, hl with | [_, _], _ => rfl
  have b__law_pick : L2.Binds K fd__law_pick P__law_pick [] := FunD.bindsN (ps := P__law_pick) D__law_pick fun _ _ _ _ _ _ us hl => match us, hl with | [_, _], _ => rfl
  have b__law_bounds : L2.Binds K fd__law_bounds P__law_bounds [] := FunD.bindsN (ps := P__law_bounds) D__law_bounds fun _ _ _ _ _ _ us hl => match us, hl with | [_], _ => rfl
  have b__law_deck : L2.Binds K fd__law_deck P__law_deck [] := FunD.bindsN (ps := P__law_deck) D__law_deck fun _ _ _ _ _ _ us hl => match us, hl with | [_], _ => rfl
  have b__law_frame : L2.Binds K fd__law_frame P__law_frame [] := FunD.bindsN (ps := P__law_frame) D__law_frame fun _ _ _ _ _ _ us hl => match us, hl with | [_, _, _], _ => rfl
  have b__law_names : L2.Binds K fd__law_names P__law_names [] := FunD.bindsN (ps := P__law_names) D__law_names fun _ _ _ _ _ _ us hl => match us, hl with | [_, _], _ => rfl
  have b__law_det : L2.Binds K fd__law_det P__law_det [] := FunD.bindsN (ps := P__law_det) D__law_det fun _ _ _ _ _ _ us hl => match us, hl with | [_, _], _ => rfl
  have b__law_bend : L2.Binds K fd__law_bend P__law_bend [] := FunD.bindsN (ps := P__law_bend) D__law_bend fun _ _ _ _ _ _ us hl => match us, hl with | [_, _, _], _ => rfl
  have b__law_hull : L2.Binds K fd__law_hull P__law_hull [] := FunD.bindsN (ps := P__law_hull) D__law_hull fun _ _ _ _ _ _ us hl => match us, hl with | [_], _ => rfl
  have b__law_polygon : L2.Binds K fd__law_polygon P__law_polygon [] := FunD.bindsN (ps := P__law_polygon) D__law_polygon fun _ _ _ _ _ _ us hl => match us, hl with | [_], _ => rfl
  have b__law_edit : L2.Binds K fd__law_edit P__law_edit [] := FunD.bindsN (ps := P__law_edit) D__law_edit fun _ _ _ _ _ _ us hl => match us, hl with | [_, _], _ => rfl
  have b__law_is_number : L2.Binds K fd__law_is_number P__law_is_number [] := FunD.bindsN (ps := P__law_is_number) D__law_is_number fun _ _ _ _ _ _ us hl => match us, hl with | [_, _], _ => rfl
  have b__law_is_frame : L2.Binds K fd__law_is_frame P__law_is_frame [] := FunD.bindsN (ps := P__law_is_frame) D__law_is_frame fun _ _ _ _ _ _ us hl => match us, hl with | [_], _ => rfl
  have b__law_is_from : L2.Binds K fd__law_is_from P__law_is_from [] := FunD.bindsN (ps := P__law_is_from) D__law_is_from fun _ _ _ _ _ _ us hl => match us, hl with | [_, _, _], _ => rfl
  have b__law_is_name : L2.Binds K fd__law_is_name P__law_is_name [] := FunD.bindsN (ps := P__law_is_name) D__law_is_name fun _ _ _ _ _ _ us hl => match us, hl with | [_], _ => rfl
  have b__law_is_pair : L2.Binds K fd__law_is_pair P__law_is_pair [] := FunD.bindsN (ps := P__law_is_pair) D__law_is_pair fun _ _ _ _ _ _ us hl => match us, hl with | [_, _], _ => rfl
  have b__law_is_below : L2.Binds K fd__law_is_below P__law_is_below [] := FunD.bindsN (ps := P__law_is_below) D__law_is_below fun _ _ _ _ _ _ us hl => match us, hl with | [_, _], _ => rfl
  have b__law_polygon_fault : L2.Binds K fd__law_polygon_fault P__law_polygon_fault [] := FunD.bindsN (ps := P__law_polygon_fault) D__law_polygon_fault fun _ _ _ _ _ _ us hl => match us, hl with | [_], _ => rfl
  have b__law_is_item : L2.Binds K fd__law_is_item P__law_is_item [] := FunD.bindsN (ps := P__law_is_item) D__law_is_item fun _ _ _ _ _ _ us hl => match us, hl with | [_, _, _], _ => rfl
  have b__law_edit_fault : L2.Binds K fd__law_edit_fault P__law_edit_fault [] := FunD.bindsN (ps := P__law_edit_fault) D__law_edit_fault fun _ _ _ _ _ _ us hl => match us, hl with | [_], _ => rfl
  have b_frame_det : L2.Binds K fd_frame_det P_frame_det [] := FunD.bindsN (ps := P_frame_det) D_frame_det fun _ _ _ _ _ _ us hl => match us, hl with | [_], _ => rfl
  have b_is_number : L2.Binds K fd_is_number P_is_number [] := FunD.bindsN (ps := P_is_number) D_is_number fun _ _ _ _ _ _ us hl => match us, hl with | [_], _ => rfl
  have b_is_within : L2.Binds K fd_is_within P_is_within [] := FunD.bindsN (ps := P_is_within) D_is_within fun _ _ _ _ _ _ us hl => match us, hl with | [_, _, _], _ => rfl
  have b_frame_error : L2.Binds K fd_frame_error P_frame_error [] := FunD.bindsN (ps := P_frame_error) D_frame_error fun _ _ _ _ _ _ us hl => match us, hl with | [_], _ => rfl
  have b_is_name : L2.Binds K fd_is_name P_is_name [] := FunD.bindsN (ps := P_is_name) D_is_name fun _ _ _ _ _ _ us hl => match us, hl with | [_], _ => rfl
  have b_is_point : L2.Binds K fd_is_point P_is_point [] := binds_nil (FunD.binds1 (ps := P_is_point) D_is_point 2 1 (by intro z; cases z) rfl fun _ _ _ _ _ _ _ us its hu hi => match us, its, hu, hi with | [_, _], [_], _, _ => ⟨_, rfl, rfl⟩) rfl
  have b_det : L2.Binds K fd_det P_det [] := FunD.bindsN (ps := P_det) D_det fun _ _ _ _ _ _ us hl => match us, hl with | [_, _], _ => rfl
  have b_minus : L2.Binds K fd_minus P_minus [] := FunD.bindsN (ps := P_minus) D_minus fun _ _ _ _ _ _ us hl => match us, hl with | [_, _], _ => rfl
  have b_sides : L2.Binds K fd_sides P_sides [] := FunD.bindsN (ps := P_sides) D_sides fun _ _ _ _ _ _ us hl => match us, hl with | [_], _ => rfl
  have b_first_bend : L2.Binds K fd_first_bend P_first_bend [] := FunD.bindsN (ps := P_first_bend) D_first_bend fun _ _ _ _ _ _ us hl => match us, hl with | [_], _ => rfl
  have b_is_upper : L2.Binds K fd_is_upper P_is_upper [] := FunD.bindsN (ps := P_is_upper) D_is_upper fun _ _ _ _ _ _ us hl => match us, hl with | [_], _ => rfl
  have b_rounds : L2.Binds K fd_rounds P_rounds [] := FunD.bindsN (ps := P_rounds) D_rounds fun _ _ _ _ _ _ us hl => match us, hl with | [_], _ => rfl
  have b_polygon_error : L2.Binds K fd_polygon_error P_polygon_error [] := FunD.bindsN (ps := P_polygon_error) D_polygon_error fun _ _ _ _ _ _ us hl => match us, hl with | [_], _ => rfl
  have b_is_item : L2.Binds K fd_is_item P_is_item [] := FunD.bindsN (ps := P_is_item) D_is_item fun _ _ _ _ _ _ us hl => match us, hl with | [_, _], _ => rfl
  have b_edit_error : L2.Binds K fd_edit_error P_edit_error [] := FunD.bindsN (ps := P_edit_error) D_edit_error fun _ _ _ _ _ _ us hl => match us, hl with | [_], _ => rfl
  have b__law_is_right : L2.Binds K fd__law_is_right P__law_is_right [] := FunD.bindsN (ps := P__law_is_right) D__law_is_right fun _ _ _ _ _ _ us hl => match us, hl with | [_], _ => rfl
  have b__law_odd_edit : L2.Binds K fd__law_odd_edit P__law_odd_edit [] := FunD.bindsN (ps := P__law_odd_edit) D__law_odd_edit fun _ _ _ _ _ _ us hl => match us, hl with | [_, _], _ => rfl
  have d_is_point_1 : DflOk K fd_is_point P_is_point [.int (1000000)] := dfl_of (FunD.binds1 (ps := P_is_point) D_is_point 1 0 (by intro z; cases z) rfl fun _ _ _ _ _ _ _ us its hu hi => match us, its, hu, hi with | [_], [_], _, _ => ⟨_, rfl, rfl⟩) (fun k => by simp only [RepL, RepV]; exact ⟨_, _, rfl, rfl, rfl⟩)
  have k_edit_error_0_value : KBnP K fd_edit_error P_edit_error 0 ["value"] [0] := kbnP_of D_edit_error fun _ _ _ _ _ _ us ws h1 h2 => match us, ws, h1, h2 with | [], [_], _, _ => rfl
  refine ⟨fd_law, fun s v => FunD.bindsA (ps := P_law) D_law (fun _ _ _ _ _ _ us hl => match us, hl with | [_], _ => rfl) s [v] rfl, fun base => ?_⟩
  have F__law_next := ok__law_next (P := P) (w := w) (base := base) D__law_next a__law_next z_int
  have F__law_pick := ok__law_pick (P := P) (w := w) (base := base) D__law_pick a__law_pick z_len F__law_next b__law_next
  have F__law_bounds := ok__law_bounds (P := P) (w := w) (base := base) D__law_bounds a__law_bounds F__law_next b__law_next F__law_pick b__law_pick
  have F__law_deck := ok__law_deck (P := P) (w := w) (base := base) D__law_deck a__law_deck z_abs z_int z_len
  have F__law_frame := ok__law_frame (P := P) (w := w) (base := base) D__law_frame a__law_frame z_range F__law_next b__law_next
  have F__law_names := ok__law_names (P := P) (w := w) (base := base) D__law_names a__law_names z_sorted F__law_next b__law_next F__law_pick b__law_pick
  have F__law_det := ok__law_det (P := P) (w := w) (base := base) D__law_det a__law_det
  have F__law_bend := ok__law_bend (P := P) (w := w) (base := base) D__law_bend a__law_bend F__law_det b__law_det
  have F__law_hull := ok__law_hull (P := P) (w := w) (base := base) D__law_hull a__law_hull z_dict z_len z_sorted z_tuple F__law_bend b__law_bend
  have F__law_polygon := ok__law_polygon (P := P) (w := w) (base := base) D__law_polygon a__law_polygon z_len z_range z_tuple F__law_hull b__law_hull F__law_next b__law_next F__law_pick b__law_pick
  have F__law_edit := ok__law_edit (P := P) (w := w) (base := base) D__law_edit a__law_edit z_max z_min F__law_frame b__law_frame F__law_names b__law_names F__law_next b__law_next F__law_pick b__law_pick F__law_polygon b__law_polygon
  have F__law_is_number := ok__law_is_number (P := P) (w := w) (base := base) D__law_is_number a__law_is_number z_bool z_int z_isinstance
  have F__law_is_frame := ok__law_is_frame (P := P) (w := w) (base := base) D__law_is_frame a__law_is_frame z_all z_isinstance z_len z_tuple F__law_is_number b__law_is_number
  have F__law_is_from := ok__law_is_from (P := P) (w := w) (base := base) D__law_is_from a__law_is_from z_bool z_int z_isinstance
  have F__law_is_name := ok__law_is_name (P := P) (w := w) (base := base) D__law_is_name a__law_is_name z_isinstance z_len z_str
  have F__law_is_pair := ok__law_is_pair (P := P) (w := w) (base := base) D__law_is_pair a__law_is_pair z_all z_isinstance z_len z_tuple F__law_is_number b__law_is_number
  have F__law_is_below := ok__law_is_below (P := P) (w := w) (base := base) D__law_is_below a__law_is_below z_int F__law_det b__law_det
  have F__law_polygon_fault := ok__law_polygon_fault (P := P) (w := w) (base := base) D__law_polygon_fault a__law_polygon_fault z_enumerate z_int z_isinstance z_len z_min z_range z_tuple F__law_bend b__law_bend F__law_is_below b__law_is_below F__law_is_pair b__law_is_pair
  have F__law_is_item := ok__law_is_item (P := P) (w := w) (base := base) D__law_is_item a__law_is_item F__law_is_frame b__law_is_frame F__law_is_from b__law_is_from F__law_is_name b__law_is_name F__law_is_pair b__law_is_pair F__law_polygon_fault b__law_polygon_fault
  have F__law_edit_fault := ok__law_edit_fault (P := P) (w := w) (base := base) D__law_edit_fault a__law_edit_fault z_isinstance z_len z_range z_str z_tuple F__law_is_item b__law_is_item
  have F_frame_det := ok_frame_det (P := P) (w := w) (base := base) D_frame_det a_frame_det
  have F_is_number := ok_is_number (P := P) (w := w) (base := base) D_is_number a_is_number z_bool z_int z_isinstance
  have F_is_within := ok_is_within (P := P) (w := w) (base := base) D_is_within a_is_within F_is_number b_is_number
  have F_frame_error := ok_frame_error (P := P) (w := w) (base := base) D_frame_error a_frame_error z_enumerate z_isinstance z_len z_tuple g_MAX_SIZE F_frame_det b_frame_det F_is_within b_is_within
  have F_is_name := ok_is_name (P := P) (w := w) (base := base) D_is_name a_is_name z_all z_isinstance z_len z_str g_MOST_SIGNS
  have F_is_point := ok_is_point (P := P) (w := w) (base := base) D_is_point a_is_point z_all z_isinstance z_len z_tuple F_is_within b_is_within
  have F_det := ok_det (P := P) (w := w) (base := base) D_det a_det
  have F_minus := ok_minus (P := P) (w := w) (base := base) D_minus a_minus
  have F_sides := ok_sides (P := P) (w := w) (base := base) D_sides a_sides z_enumerate z_len F_minus b_minus
  have F_first_bend := ok_first_bend (P := P) (w := w) (base := base) D_first_bend a_first_bend z_enumerate F_det b_det F_sides b_sides
  have F_is_upper := ok_is_upper (P := P) (w := w) (base := base) D_is_upper a_is_upper
  have F_rounds := ok_rounds (P := P) (w := w) (base := base) D_rounds a_rounds z_enumerate z_len F_is_upper b_is_upper F_sides b_sides
  have F_polygon_error := ok_polygon_error (P := P) (w := w) (base := base) D_polygon_error a_polygon_error z_enumerate z_isinstance z_len z_min z_tuple g_MAX_CORNERS F_first_bend b_first_bend F_is_point b_is_point F_rounds b_rounds d_is_point_1
  have F_is_item := ok_is_item (P := P) (w := w) (base := base) D_is_item a_is_item g_MAX_CORNERS g_MAX_SCALE F_frame_error b_frame_error F_is_name b_is_name F_is_point b_is_point F_is_within b_is_within F_polygon_error b_polygon_error d_is_point_1
  have F_edit_error := ok_edit_error (P := P) (w := w) (base := base) D_edit_error a_edit_error z_enumerate z_isinstance z_len z_str z_tuple g_SORTS F_is_item b_is_item
  have F__law_is_right := ok__law_is_right (P := P) (w := w) (base := base) D__law_is_right a__law_is_right z_repr F__law_edit_fault b__law_edit_fault F_edit_error b_edit_error k_edit_error_0_value
  have F__law_odd_edit := ok__law_odd_edit (P := P) (w := w) (base := base) D__law_odd_edit a__law_odd_edit z_len z_list F__law_next b__law_next F__law_pick b__law_pick
  have F_law := ok_law (P := P) (w := w) (base := base) D_law a_law z_range F__law_bounds b__law_bounds F__law_deck b__law_deck F__law_edit b__law_edit F__law_edit_fault b__law_edit_fault F__law_is_right b__law_is_right F__law_odd_edit b__law_odd_edit
  exact F_law
end K92
section
open PySem PySem.W PySem.Calls PyProof.Rows
set_option maxHeartbeats 0 in
theorem K92.head (hlaw : ∀ ns : List Int, ns.length ≤ 63 → ∃ M, K92.m_law [.lst (ns.map G.D.int)] [] = .ok (.bl true) M) : PySem.Challenge.rw_gridloops_k92_what_edits_are.Holds := by
  w_on; o_law
  refine HandSHeadRun.head_any (r := OpenLaw.row PySem.Challenge.rw_gridloops_k92_what_edits_are) (q := view (OpenLaw.row PySem.Challenge.rw_gridloops_k92_what_edits_are).prog [47]) (H := K92.hk) (ob := K92.ob) (M := 4000) (loose := K92.loose) (d := HandSHeadRun.topDef (OpenLaw.row PySem.Challenge.rw_gridloops_k92_what_edits_are).prog 47) (kwd := []) K92.ob_eq
    (by kernel_rfl) (fun s => by kernel_rfl) K92.run (by kernel_rfl) (by kernel_rfl) (by kernel_rfl) (by rfl) (by first | assumption | decide +kernel) (by decide +kernel) ⟨rfl, rfl, rfl, rfl, rfl, by decide +kernel⟩ ?hw ?hc
  case hw => w_witness2
  case hc =>
    refine L2.walkG_ofE (l := PySem.Challenge.rw_gridloops_k92_what_edits_are) (n := 63) (k := 8) (x := "script") (CX := fun w => L2.CX (PySem.Challenge.rw_gridloops_k92_what_edits_are).prog w) rfl (by decide) (by kernel_rfl) ⟨rfl, by decide, by decide⟩ ?F (fun _ _ _ _ _ ⟨_, _, _, _, _, _, _, _, _, _, _, _, z⟩ => z)
    intro w mg fa h Y G hmg0
    obtain ⟨K, KX, c⟩ := Y
    have hmg : mg ("law" : PySem.Str) = some (.ref fa) := by
      have e : (HandSHeadRun.topDef (OpenLaw.row PySem.Challenge.rw_gridloops_k92_what_edits_are).prog 47).name = ("law" : PySem.Str) := by kernel_rfl
      rw [← e]
      exact hmg0
    obtain ⟨fd, hb, hF⟩ := K92.facts (P := (PySem.Challenge.rw_gridloops_k92_what_edits_are).prog) (w := w) KX G hmg c
    exact ⟨K, fd, _root_.G.spF K mg K92.m_law, KX, hb, fun H a ns hl _ hS => _root_.G.law_sp hS (hlaw ns hl), fun base _ _ => (hF base).ok⟩
end
set_option maxHeartbeats 4000000
namespace K92
open PySem PySem.Spec PyProof.Rows L2 G
def within (v : D) (lo hi : Int) : Bool := match v with
  | .int i => decide (lo ≤ i) && decide (i ≤ hi)
  | _ => false
def isInt : D → Bool
  | .int _ => true
  | _ => false
theorem is_number_eq {v : D} (hv : v.dry = true) (M : Mem) : m_is_number [v] M = .ok (.bl (isInt v)) M := by
  refine runF_eq rfl rfl ?_
  cases v <;> first | (simp at hv; done) | (simp [startD_eq, b_is_number_, subTy, isInt])
theorem is_within_eq {v : D} (hv : v.dry = true) (lo hi : Int) (M : Mem) : m_is_within [v, .int lo, .int hi] M = .ok (.bl (within v lo hi)) M := by
  refine runF_eq rfl rfl ?_
  simp only [startD_eq, b_is_within_]
  simp [is_number_eq hv]
  cases v <;> simp [isInt, within]
  rename_i i
  by_cases h : lo ≤ i <;> simp [h]
theorem law_is_number_eq {v : D} (hv : v.dry = true) (m : Int) (M : Mem) : m__law_is_number [v, .int m] M = .ok (.bl (within v (-m) m)) M := by
  refine runF_eq rfl rfl ?_
  cases v <;> first | (simp at hv; done) | (simp [startD_eq, b__law_is_number_, subTy, within])
  rename_i i
  by_cases h : -m ≤ i <;> simp [h]
theorem law_is_from_eq {v : D} (hv : v.dry = true) (lo hi : Int) (M : Mem) : m__law_is_from [v, .int lo, .int hi] M = .ok (.bl (within v lo hi)) M := by
  refine runF_eq rfl rfl ?_
  cases v <;> first | (simp at hv; done) | (simp [startD_eq, b__law_is_from_, subTy, within])
  rename_i i
  by_cases h : lo ≤ i <;> simp [h]
/-- a point within m -/
def isPt (v : D) (m : Int) : Bool := match v with
  | .tup [x, y] => within x (-m) m && within y (-m) m
  | _ => false
theorem is_point_eq {v : D} (hv : v.dry = true) (m : Int) (M : Mem) : m_is_point [v, .int m] M = .ok (.bl (isPt v m)) M := by
  refine runF_eq rfl rfl ?_
  cases v with
  | tup ds =>
    simp only [startD_eq, b_is_point_]
    simp [subTy]
    by_cases hl : ds.length = 2
    · obtain ⟨x, y, rfl⟩ : ∃ x y, ds = [x, y] := by
        match ds, hl with
        | [x, y], _ => exact ⟨x, y, rfl⟩
      have hx : x.dry = true := by rw [dry_tup] at hv; exact dryL_mem.mp hv x (by simp)
      have hy : y.dry = true := by rw [dry_tup] at hv; exact dryL_mem.mp hv y (by simp)
      have e : compL (fun _ => True) (tgName 2) cYes (cCall m_is_within (cCons (cVar 2) (cCons (c1 negD (cVar 1)) (cCons (cVar 1) cNil)))) (wipeD [some (D.tup [x, y]), some (D.int m), none] [2]) [x, y] M = .ok ([within x (-m) m, within y (-m) m].map D.bl) M := by
        rw [compL_map (F := fun d => .bl (within d (-m) m)) trivial]
        · rfl
        · intro d hd
          have hdd : d.dry = true := by rcases List.mem_cons.mp hd with e | hd; rw [e]; exact hx; rw [List.mem_singleton.mp hd]; exact hy
          exact ⟨_, rfl, by simp [wipeD, is_within_eq hdd]⟩
      simp [e, isPt]
    · have hl' : ¬ ((ds.length : Int) = 2) := by omega
      have : isPt (.tup ds) m = false := by
        match ds, hl with
        | [], _ => rfl
        | [_], _ => rfl
        | _ :: _ :: _ :: _, _ => rfl
        | [x, y], h => exact absurd rfl h
      simp [hl', this]
  | ref n => simp at hv
  | _ => simp [startD_eq, b_is_point_, subTy, isPt]
theorem law_is_pair_eq {v : D} (hv : v.dry = true) (m : Int) (M : Mem) : m__law_is_pair [v, .int m] M = .ok (.bl (isPt v m)) M := by
  refine runF_eq rfl rfl ?_
  cases v with
  | tup ds =>
    simp only [startD_eq, b__law_is_pair_]
    simp [subTy]
    by_cases hl : ds.length = 2
    · obtain ⟨x, y, rfl⟩ : ∃ x y, ds = [x, y] := by
        match ds, hl with
        | [x, y], _ => exact ⟨x, y, rfl⟩
      have hx : x.dry = true := by rw [dry_tup] at hv; exact dryL_mem.mp hv x (by simp)
      have hy : y.dry = true := by rw [dry_tup] at hv; exact dryL_mem.mp hv y (by simp)
      have e : compL (fun _ => True) (tgName 2) cYes (cCall m__law_is_number (cCons (cVar 2) (cCons (cVar 1) cNil))) (wipeD [some (D.tup [x, y]), some (D.int m), none] [2]) [x, y] M = .ok ([within x (-m) m, within y (-m) m].map D.bl) M := by
        rw [compL_map (F := fun d => .bl (within d (-m) m)) trivial]
        · rfl
        · intro d hd
          have hdd : d.dry = true := by rcases List.mem_cons.mp hd with e | hd; rw [e]; exact hx; rw [List.mem_singleton.mp hd]; exact hy
          exact ⟨_, rfl, by simp [wipeD, law_is_number_eq hdd]⟩
      simp [e, isPt]
    · have hl' : ¬ ((ds.length : Int) = 2) := by omega
      have : isPt (.tup ds) m = false := by
        match ds, hl with
        | [], _ => rfl
        | [_], _ => rfl
        | _ :: _ :: _ :: _, _ => rfl
        | [x, y], h => exact absurd rfl h
      simp [hl', this]
  | ref n => simp at hv
  | _ => simp [startD_eq, b__law_is_pair_, subTy, isPt]
end K92
set_option maxHeartbeats 4000000
namespace G
open PySem PySem.Spec PyProof.Rows L2
theorem fine_str {s : Str} (h : Fine (.str s)) : s.length ≤ 12 ∧ PyData.strOk s = true := by
  obtain ⟨b, h⟩ := h
  simp only [fineN, Bool.and_eq_true, decide_eq_true_eq] at h
  exact h
theorem fine_of_fineN {b : Bool} {n : Nat} (hn : n ≤ 4) {d : D} (h : fineN b n d = true) : Fine d := by
  have up : ∀ (n : Nat) {d : D}, fineN b n d = true → fineN b (n + 1) d = true := by
    intro n
    induction n with
    | zero =>
      intro d h
      cases d with
      | dic ks ds => cases ks <;> cases ds <;> first | exact h | simp [fineN] at h
      | tup ds => simp [fineN] at h
      | lst ds => simp [fineN] at h
      | ref i => simp [fineN] at h
      | _ => exact h
    | succ n ih =>
      intro d h
      cases d with
      | dic ks ds => cases ks <;> cases ds <;> first | exact h | simp [fineN] at h
      | tup ds =>
        simp only [fineN, Bool.and_eq_true, decide_eq_true_eq] at h
        show (decide (ds.length ≤ 16) && ds.all (fineN b (n + 1))) = true
        simp only [Bool.and_eq_true, decide_eq_true_eq]
        exact ⟨h.1, List.all_eq_true.mpr fun d hd => ih (List.all_eq_true.mp h.2 d hd)⟩
      | lst ds =>
        simp only [fineN, Bool.and_eq_true, decide_eq_true_eq] at h
        show (b && (decide (ds.length ≤ 16) && ds.all (fineN b (n + 1)))) = true
        simp only [Bool.and_eq_true, decide_eq_true_eq]
        exact ⟨h.1, h.2.1, List.all_eq_true.mpr fun d hd => ih (List.all_eq_true.mp h.2.2 d hd)⟩
      | ref i => simp [fineN] at h
      | _ => exact h
  have go : ∀ k, fineN b (n + k) d = true := by
    intro k
    induction k with
    | zero => exact h
    | succ k ih => exact up _ ih
  refine ⟨b, ?_⟩
  have := go (4 - n)
  rwa [Nat.add_sub_cancel' hn] at this
theorem fine_mem {ds : List D} (h : Fine (.tup ds)) : ds.length ≤ 16 ∧ ∀ d ∈ ds, Fine d := by
  obtain ⟨b, h⟩ := h
  simp only [fineN, Bool.and_eq_true, decide_eq_true_eq] at h
  exact ⟨h.1, fun d hd => fine_of_fineN (n := 3) (by decide) (List.all_eq_true.mp h.2 d hd)⟩
theorem Fine.dry {d : D} (h : Fine d) : d.dry = true := h.elim fun b h => fine_dry b 4 h
theorem eqD_nil {M : Mem} {ds : List D} {ps : List PyData} (h1 : D.toPL ds = some ps) (h2 : PyData.canLayAll0 ps = true) (h3 : PyData.depthAll ps ≤ 63) : eqD (.lst ds) (.lst []) M = .ok (.bl ds.isEmpty) M := by
  have e : eqP (.lst ds) (.lst []) M = some ds.isEmpty := by
    have s1 : SeqAt.shaped (.list ps) = true := by
      have hd : PyData.depth (.list ps) ≤ 64 := by simp only [PyData.depth]; omega
      unfold SeqAt.shaped
      simp only [PyData.canLay0, h2, Bool.true_and, decide_eq_true_eq]
      exact hd
    have s2 : SeqAt.shaped (.list []) = true := by decide
    have e1 : toPM M (.lst ds) = some (.list ps) := by show (D.toPL ds).map PyData.list = _; rw [h1]; rfl
    have e2 : toPM M (.lst []) = some (.list []) := rfl
    unfold eqP
    rw [e1, e2]
    simp only [s1, s2, Bool.and_self, if_true]
    congr 1
    cases ds with
    | nil => cases h1; rfl
    | cons d ds =>
      simp only [D.toPL, Option.bind_eq_some_iff, Option.map_eq_some_iff] at h1
      obtain ⟨p, _, r, _, rfl⟩ := h1
      rfl
  have e2 : eqB (.lst ds) (.lst []) M = some ds.isEmpty := e
  unfold eqD
  rw [e2]
theorem in_sign {c : Nat} {z : Str} {M : Mem} : inD (.str ⟨#[c]⟩) (.str z) M = .ok (.bl (decide (c ∈ z.cps.toList))) M := rfl
theorem notIn_sign {c : Nat} {z : Str} {M : Mem} : notInD (.str ⟨#[c]⟩) (.str z) M = .ok (.bl (!decide (c ∈ z.cps.toList))) M := rfl
theorem toPL_signs : ∀ {cs : List Nat}, (∀ c ∈ cs, c < 0x110000) → ∃ ps, D.toPL (cs.map fun c => .str ⟨#[c]⟩) = some ps ∧ PyData.canLayAll0 ps = true ∧ PyData.depthAll ps = 0
  | [], _ => ⟨[], rfl, rfl, rfl⟩
  | c :: cs, h => by
    obtain ⟨ps, h1, h2, h3⟩ := toPL_signs fun x hx => h x (List.mem_cons_of_mem _ hx)
    have hc := h c List.mem_cons_self
    refine ⟨.str ⟨#[c]⟩ :: ps, by simp only [List.map_cons, D.toPL, D.toP, h1, Option.bind_some, Option.map_some], ?_, ?_⟩
    · simp only [PyData.canLayAll0, PyData.canLay0, h2, Bool.and_true]
      simp [PyData.strOk, hc]
    · simp only [PyData.depthAll, PyData.depth, h3, Nat.max_self]
end G
namespace K92
open PySem PySem.Spec PyProof.Rows L2 G
abbrev al : Str := PySem.Str.ofString "abcdefghijklmnopqrstuvwxyz"
abbrev sNone : Str := PySem.Str.ofString "none"
def isName : D → Bool
  | .str s => decide (1 ≤ s.length) && decide (s.length ≤ 8) && !decide (s = sNone) && s.cps.toList.all fun c => decide (c ∈ al.cps.toList)
  | _ => false
theorem is_name_eq {v : D} (hv : Fine v) (M : Mem) : m_is_name [v] M = .ok (.bl (isName v)) M := by
  refine runF_eq rfl rfl ?_
  cases v with
  | str s =>
    obtain ⟨h12, hok⟩ := fine_str hv
    have hlen : lenD [.str s] M = .ok (.int s.length) M := lenD_str (by omega)
    simp only [startD_eq, b_is_name_]
    simp [subTy, hlen]
    by_cases h1 : 1 ≤ (s.length : Int)
    · by_cases h2 : (s.length : Int) ≤ 8
      · by_cases h3 : s = sNone
        · simp only [if_pos h1, h2, decide_true]
          simp [h3, isName]
        · have e : compL (fun _ => True) (tgName 1) cYes (c2 inD (cVar 1) (cC (.str al))) (wipeD [some (D.str s), none] [1]) (s.cps.toList.map fun c => .str ⟨#[c]⟩) M = .ok ((s.cps.toList.map fun c => decide (c ∈ al.cps.toList)).map D.bl) M := by
            rw [compL_map (F := fun d => match d with | .str x => .bl (decide (x.cps.toList.headD 0 ∈ al.cps.toList)) | _ => .non) trivial]
            · rw [List.map_map, List.map_map]; rfl
            · intro d hd
              obtain ⟨c, hc, rfl⟩ := List.mem_map.mp hd
              exact ⟨_, rfl, by simp [wipeD, in_sign]⟩
          have hz : s.cps.toList.length ≤ 1000000 := by have : s.cps.toList.length = s.length := by simp [PySem.Str.length]
                                                        omega
          have h1' : 1 ≤ s.length := by omega
          have h2' : s.length ≤ 8 := by omega
          have hz' : s.cps.size ≤ 1000000 := by simpa using hz
          simp [h1, h2, h3, e, hz', isName, h1', h2']
          rw [← List.map_map, asBools_map]
          simp [Function.comp_def, List.all_map]
      · have h2' : ¬ s.length ≤ 8 := by omega
        simp [h1, h2, isName, h2']
    · have h1' : ¬ 1 ≤ s.length := by omega
      simp [h1, isName, h1']
  | ref n => exact absurd hv.dry (by simp)
  | _ => simp [startD_eq, b_is_name_, subTy, isName]
end K92
set_option maxHeartbeats 4000000
namespace K92
open PySem PySem.Spec PyProof.Rows L2 G
theorem law_is_name_eq {v : D} (hv : Fine v) (M : Mem) : m__law_is_name [v] M = .ok (.bl (isName v)) M := by
  refine runF_eq rfl rfl ?_
  cases v with
  | str s =>
    obtain ⟨h12, hok⟩ := fine_str hv
    have hlen : lenD [.str s] M = .ok (.int s.length) M := lenD_str (by omega)
    simp only [startD_eq, b__law_is_name_]
    simp [subTy, hlen]
    by_cases h1 : 1 ≤ (s.length : Int)
    · by_cases h2 : (s.length : Int) ≤ 8
      · by_cases h3 : s = sNone
        · simp only [if_pos h1, h2, decide_true]
          simp [h3, isName]
        · have hlt : ∀ c ∈ s.cps.toList, c < 0x110000 := by
            intro c hc
            have := hok
            unfold PyData.strOk at this
            rw [Array.all_eq_true_iff_forall_mem] at this
            simpa using this c (by simpa using hc)
          have e : compL (fun _ => True) (tgName 1) (cT (c2 notInD (cVar 1) (cC (.str al)))) (cVar 1) (wipeD [some (D.str s), none] [1]) (s.cps.toList.map fun c => .str ⟨#[c]⟩) M = .ok ((s.cps.toList.filter fun c => !decide (c ∈ al.cps.toList)).map fun c => .str ⟨#[c]⟩) M := by
            rw [compL_filter (p := fun d => match d with | .str x => !decide (x.cps.toList.headD 0 ∈ al.cps.toList) | _ => false) (F := id) trivial]
            · rw [List.map_id, List.filter_map]; rfl
            · intro d hd
              obtain ⟨c, hc, rfl⟩ := List.mem_map.mp hd
              exact ⟨_, rfl, by simp [wipeD, notIn_sign], by simp [wipeD]⟩
          obtain ⟨ps, q1, q2, q3⟩ := toPL_signs (cs := s.cps.toList.filter fun c => !decide (c ∈ al.cps.toList)) fun c hc => hlt c (List.mem_filter.mp hc).1
          have eqn : eqD (.lst ((s.cps.toList.filter fun c => !decide (c ∈ al.cps.toList)).map fun c => .str ⟨#[c]⟩)) (.lst []) M = _ := eqD_nil q1 q2 (by omega)
          have hz : s.cps.toList.length ≤ 1000000 := by have : s.cps.toList.length = s.length := by simp [PySem.Str.length]
                                                        omega
          have h1' : 1 ≤ s.length := by omega
          have h2' : s.length ≤ 8 := by omega
          have hz' : s.cps.size ≤ 1000000 := by simpa using hz
          simp only [if_pos h1, h2, decide_true, asBl_bl, Res.bind_ok, Bool.not_true, Bool.false_eq_true, if_false, h3, decide_false, flow_ok, then_nx, cEnd_at, cSeq_at, cRet_at, c2_at, cL_at, cComp_at, cIter_at, cVar_at]
          simp only [List.getElem?_cons_zero, Res.bind_ok, src_str, liftS_some, List.length_map, if_pos hz]
          simp only [e, Res.bind_ok, cLst_at, cNil_at, List.length_nil, Nat.zero_le, if_true, eqn, flow_ok, then_rt]
          congr 2
          simp only [isName, h1', h2', decide_true, Bool.true_and, h3, decide_false, Bool.not_false]
          generalize s.cps.toList = cs
          rw [Bool.eq_iff_iff, List.isEmpty_iff, List.map_eq_nil_iff, List.filter_eq_nil_iff, List.all_eq_true]
          simp
      · have h2' : ¬ s.length ≤ 8 := by omega
        simp [h1, h2, isName, h2']
    · have h1' : ¬ 1 ≤ s.length := by omega
      simp [h1, isName, h1']
  | ref n => exact absurd hv.dry (by simp)
  | _ => simp [startD_eq, b__law_is_name_, subTy, isName]
/-- a frame -/
def numAt (v : D) : Bool := within v (-1000000) 1000000
def isFrame : D → Bool
  | .tup [a, b, c, d, e, f] => (numAt a && numAt b && numAt c && numAt d && numAt e && numAt f) && match a, b, c, d with
    | .int a, .int b, .int c, .int d => decide (a * d - b * c = 1) || decide (a * d - b * c = -1)
    | _, _, _, _ => false
  | _ => false
theorem within_int {v : D} {lo hi : Int} (h : within v lo hi = true) : ∃ i, v = .int i ∧ lo ≤ i ∧ i ≤ hi := by
  cases v <;> simp [within] at h
  exact ⟨_, rfl, h.1, h.2⟩
theorem in_pm {z : Int} {M : Mem} : inD (.int z) (.tup [.int 1, .int (-1)]) M = .ok (.bl (decide (z = 1) || decide (z = -1))) M := by
  have e : inB (.int z) (.tup [.int 1, .int (-1)]) M = some (decide (z = 1) || decide (z = -1)) := by
    simp only [inB, seqOf, flatD, List.all_cons, List.all_nil, Bool.and_self, if_true, memB, List.any_cons, List.any_nil, eqF, Bool.or_false]
    congr 1
    rw [Bool.eq_iff_iff]
    simp
    omega
  unfold inD
  rw [e]
theorem tup6 {ds : List D} (h : ds.length = 6) : ∃ a b c d e f, ds = [a, b, c, d, e, f] := by
  match ds, h with
  | [a, b, c, d, e, f], _ => exact ⟨a, b, c, d, e, f, rfl⟩
theorem mul_ok {a b : Int} (h1 : -1000000 ≤ a) (h2 : a ≤ 1000000) {M : Mem} : mulD (.int a) (.int b) M = .ok (.int (a * b)) M := mulD_int (.inl ⟨by omega, by omega⟩)
theorem frame_det_eq {a b c d : Int} {r : List D} (ha : -1000000 ≤ a ∧ a ≤ 1000000) (hb : -1000000 ≤ b ∧ b ≤ 1000000) (M : Mem) : m_frame_det [.tup (.int a :: .int b :: .int c :: .int d :: r)] M = .ok (.int (a * d - b * c)) M := by
  refine runF_eq rfl rfl ?_
  simp [startD_eq, b_frame_det_, mul_ok ha.1 ha.2, mul_ok hb.1 hb.2]
theorem law_is_frame_eq {v : D} (hv : Fine v) (M : Mem) : m__law_is_frame [v] M = .ok (.bl (isFrame v)) M := by
  refine runF_eq rfl rfl ?_
  cases v with
  | tup ds =>
    obtain ⟨hl16, hall⟩ := fine_mem hv
    simp only [startD_eq, b__law_is_frame_]
    simp [subTy]
    by_cases hl : ds.length = 6
    · obtain ⟨a, b, c, d, e, f, rfl⟩ := tup6 hl
      have ec : compL (fun _ => True) (tgName 1) cYes (cCall m__law_is_number (cCons (cVar 1) (cCons (cC (.int 1000000)) cNil))) (wipeD [some (D.tup [a, b, c, d, e, f]), none] [1]) [a, b, c, d, e, f] M = .ok ([numAt a, numAt b, numAt c, numAt d, numAt e, numAt f].map D.bl) M := by
        rw [compL_map (F := fun d => .bl (numAt d)) trivial]
        · rfl
        · intro d hd
          exact ⟨_, rfl, by simp [wipeD, law_is_number_eq (hall d hd).dry]; rfl⟩
      simp [ec]
      by_cases hn : numAt a && numAt b && numAt c && numAt d && numAt e && numAt f
      · simp only [Bool.and_eq_true] at hn
        obtain ⟨⟨⟨⟨⟨ha, hb⟩, hc⟩, hd⟩, he⟩, hf⟩ := hn
        simp only [ha, hb, hc, hd, he, hf]
        obtain ⟨a, rfl, ha1, ha2⟩ := within_int ha
        obtain ⟨b, rfl, hb1, hb2⟩ := within_int hb
        obtain ⟨c, rfl, hc1, hc2⟩ := within_int hc
        obtain ⟨d, rfl, hd1, hd2⟩ := within_int hd
        simp [mul_ok ha1 ha2, mul_ok hb1 hb2, in_pm, isFrame, ha, hb, hc, hd, he, hf]
      · have hn' : isFrame (.tup [a, b, c, d, e, f]) = false := by simp only [isFrame]; rw [Bool.eq_false_iff.mpr hn]; rfl
        have hz : (numAt a && (numAt b && (numAt c && (numAt d && (numAt e && numAt f))))) = false := by
          rw [← Bool.and_assoc, ← Bool.and_assoc, ← Bool.and_assoc, ← Bool.and_assoc]
          exact Bool.eq_false_iff.mpr hn
        have hor : numAt a = false ∨ numAt b = false ∨ numAt c = false ∨ numAt d = false ∨ numAt e = false ∨ numAt f = false := by simpa only [Bool.and_eq_false_iff] using hz
        rw [if_pos hor, hn']
        rfl
    · have hl' : ¬ ((ds.length : Int) = 6) := by omega
      have : isFrame (.tup ds) = false := by
        unfold isFrame
        split
        · rename_i h
          cases h
          exact absurd rfl hl
        · rfl
      simp [hl', this]
  | ref n => exact absurd hv.dry (by simp)
  | _ => simp [startD_eq, b__law_is_frame_, subTy, isFrame]
end K92
set_option maxHeartbeats 4000000
namespace K92
open PySem PySem.Spec PyProof.Rows L2 G
/-- a def that answers None just if b, and leaves the store alone -/
def NoneIf (r : Res D) (M : Mem) (b : Bool) : Prop := ∃ d, r = .ok d M ∧ d.dry = true ∧ isN d M = .ok (.bl b) M
theorem frame_error_ok {v : D} (hv : Fine v) (M : Mem) : NoneIf (m_frame_error [v] M) M (isFrame v) := by
  have fin : ∀ {d : D} {b : Bool}, b_frame_error_ (startD 3 [v]) M = .rt d M → d.dry = true → isN d M = .ok (.bl b) M → isFrame v = b → NoneIf (m_frame_error [v] M) M (isFrame v) := fun h h1 h2 h3 => ⟨_, runF_eq rfl h1 h, h1, by rw [h3]; exact h2⟩
  cases v with
  | tup ds =>
    obtain ⟨hl16, hall⟩ := fine_mem hv
    by_cases hl : ds.length = 6
    · obtain ⟨a, b, c, d, e, f, rfl⟩ := tup6 hl
      have key := forL_check (gd := fun _ => True) (g := tgSeq (tgCons (tgName 1) (tgCons (tgName 2) tgNil))) (M := M) (ds := enumL [a, b, c, d, e, f]) (ρ := startD 3 [.tup [a, b, c, d, e, f]])
        (body := cSeq (cIfS (cNot (cT (cCall m_is_within (cCons (cVar 2) (cCons (c1 negD (cC (.int 1000000))) (cCons (cC (.int 1000000)) (cNil))))))) (cSeq (cRet (cTup (cCons (cC (.str (PySem.Str.ofString "number"))) (cCons (cVar 1) (cNil))))) (cEnd)) (cEnd)) (cEnd))
        (fun ρ => ∃ x y, ρ = [some (.tup [a, b, c, d, e, f]), x, y]) (fun z => match z with | .tup [i, x] => if numAt x then none else some (.tup [.str (PySem.Str.ofString "number"), i]) | _ => none) trivial ⟨none, none, rfl⟩ (by
          rintro z hz ρ ⟨x0, y0, rfl⟩
          obtain ⟨i, x, hx, rfl⟩ := enumL_mem hz
          have hdx := (hall x (List.mem_of_getElem? hx)).dry
          refine ⟨_, rfl, ?_⟩
          by_cases hn : numAt x = true
          · refine .inl ⟨by simp [hn], _, ?_, some (.int i), some x, rfl⟩
            have hn' : within x (-1000000) 1000000 = true := hn
            simp [is_within_eq hdx, hn']
          · refine .inr ⟨.tup [.str (PySem.Str.ofString "number"), .int i], by simp [hn], ?_⟩
            have hn' : within x (-1000000) 1000000 = false := Bool.eq_false_iff.mpr hn
            simp [is_within_eq hdx, hn'])
      have hnone := enum_none (ds := [a, b, c, d, e, f]) (F := fun z => match z with | .tup [i, x] => if numAt x then none else some (.tup [.str (PySem.Str.ofString "number"), i]) | _ => none) (p := fun _ x => numAt x) (fun i x _ => by simp)
      have hhead : ∀ q, forL (fun _ => True) (tgSeq (tgCons (tgName 1) (tgCons (tgName 2) tgNil))) (cSeq (cIfS (cNot (cT (cCall m_is_within (cCons (cVar 2) (cCons (c1 negD (cC (.int 1000000))) (cCons (cC (.int 1000000)) (cNil))))))) (cSeq (cRet (cTup (cCons (cC (.str (PySem.Str.ofString "number"))) (cCons (cVar 1) (cNil))))) (cEnd)) (cEnd)) (cEnd)) (enumL [a, b, c, d, e, f]) (startD 3 [.tup [a, b, c, d, e, f]]) M = q →
          b_frame_error_ (startD 3 [.tup [a, b, c, d, e, f]]) M = q.then (cSeq (cRet (cIf (cT (c2 inD (cCall m_frame_det (cCons (cVar 0) (cNil))) (cTup (cCons (cC (.int 1)) (cCons (c1 negD (cC (.int 1))) (cNil)))))) (cC (.non)) (cC (.str (PySem.Str.ofString "det"))))) (cEnd)) := by
        intro q hq
        rw [← hq]
        simp [startD_eq, b_frame_error_, subTy]
      rcases key with ⟨r, hr, hk⟩ | ⟨hr, ρ', hk, x, y, rfl⟩
      · have hE := hhead _ hk
        rw [then_rt] at hE
        obtain ⟨z, hz, hzr⟩ := List.exists_of_findSome?_eq_some hr
        obtain ⟨i, x, hx, rfl⟩ := enumL_mem hz
        have hbad : numAt x = false := by
          by_cases hn : numAt x = true
          · simp [hn] at hzr
          · exact Bool.eq_false_iff.mpr hn
        simp [hbad] at hzr
        subst hzr
        refine fin hE (by simp [dry_tup, D.ltL, D.lt]) rfl ?_
        have hmem : ¬ (numAt a && numAt b && numAt c && numAt d && numAt e && numAt f) = true := fun h => by
          simp only [Bool.and_eq_true] at h
          have hx2 := List.mem_of_getElem? hx
          simp only [List.mem_cons, List.not_mem_nil, or_false] at hx2
          rcases hx2 with rfl | rfl | rfl | rfl | rfl | rfl <;> simp [hbad] at h
        simp only [isFrame]
        rw [Bool.eq_false_iff.mpr hmem]
        rfl
      · have hE := hhead _ hk
        rw [then_nx] at hE
        have hall2 := hnone.mp hr
        have ha := hall2 0 a rfl
        have hb := hall2 1 b rfl
        have hc := hall2 2 c rfl
        have hd := hall2 3 d rfl
        have he := hall2 4 _ rfl
        have hf := hall2 5 f rfl
        obtain ⟨a, rfl, ha1, ha2⟩ := within_int ha
        obtain ⟨b, rfl, hb1, hb2⟩ := within_int hb
        obtain ⟨c, rfl, hc1, hc2⟩ := within_int hc
        obtain ⟨d, rfl, hd1, hd2⟩ := within_int hd
        by_cases hdet : a * d - b * c = 1 ∨ a * d - b * c = -1
        · refine fin (d := .non) (b := true) ?_ rfl rfl ?_
          · rw [hE]
            simp [frame_det_eq ⟨ha1, ha2⟩ ⟨hb1, hb2⟩, in_pm, hdet]
          · simp only [isFrame, ha, hb, hc, hd, he, hf, Bool.and_self, Bool.true_and]
            simpa using hdet
        · refine fin (d := .str (PySem.Str.ofString "det")) (b := false) ?_ rfl rfl ?_
          · rw [hE]
            simp [frame_det_eq ⟨ha1, ha2⟩ ⟨hb1, hb2⟩, in_pm, hdet]
          · simp only [isFrame, ha, hb, hc, hd, he, hf, Bool.and_self, Bool.true_and]
            simpa using hdet
    · refine fin (d := .str (PySem.Str.ofString "form")) (b := false) ?_ rfl rfl ?_
      · have hl' : ¬ ((ds.length : Int) = 6) := by omega
        simp [startD_eq, b_frame_error_, subTy, hl']
      · unfold isFrame
        split
        · rename_i h
          cases h
          exact absurd rfl hl
        · rfl
  | ref n => exact absurd hv.dry (by simp)
  | _ => exact fin (d := .str (PySem.Str.ofString "form")) (b := false) (by simp [startD_eq, b_frame_error_, subTy]) rfl rfl rfl
end K92
/-! polygons in plain mathematics: corners by place, ways round counted twice -/
namespace PM
abbrev Pt := Int × Int
def gp (ps : List Pt) (i : Nat) : Pt := ps.getD i (0, 0)
def prv (n i : Nat) : Nat := if i = 0 then n - 1 else i - 1
def nxt (n i : Nat) : Nat := (i + 1) % n
def sb (a b : Pt) : Pt := (a.1 - b.1, a.2 - b.2)
def sd (ps : List Pt) (i : Nat) : Pt := sb (gp ps (nxt ps.length i)) (gp ps i)
def dt (a b : Pt) : Int := a.1 * b.2 - a.2 * b.1
def up (v : Pt) : Bool := decide (0 < v.2) || (decide (v.2 = 0) && decide (0 < v.1))
def low (v : Pt) : Bool := decide (v.2 < 0) || (decide (v.2 = 0) && decide (v.1 < 0))
def bendsOk (ps : List Pt) : Prop := ∀ i, i < ps.length → 0 < dt (sd ps (prv ps.length i)) (sd ps i)
def rnds (ps : List Pt) : Nat := ((List.range ps.length).filter fun i => up (sd ps i) && !up (sd ps (prv ps.length i))).length
def below (a b : Pt) : Bool := if low a = low b then decide (0 < dt a b) else (!low a && low b)
def wy (ps : List Pt) (k : Nat) : Pt := sd ps (prv ps.length k)
def lawRnds (ps : List Pt) : Nat := ((List.range ps.length).filter fun k => !below (wy ps (prv ps.length k)) (wy ps k)).length
theorem prv_lt {n i : Nat} (h : i < n) : prv n i < n := by unfold prv; split <;> omega
theorem nxt_prv {n i : Nat} (h : i < n) : nxt n (prv n i) = i := by
  unfold nxt prv
  split
  · rename_i h0
    subst h0
    rw [Nat.sub_add_cancel (by omega), Nat.mod_self]
  · rw [Nat.sub_add_cancel (by omega), Nat.mod_eq_of_lt h]
theorem prv_succ {n i : Nat} : prv n (i + 1) = i := rfl
theorem nxt_succ {n i : Nat} (h : i + 1 < n) : nxt n i = i + 1 := Nat.mod_eq_of_lt h
theorem dt_pos_ne {a b : Pt} (h : 0 < dt a b) : b ≠ (0, 0) := by
  intro z
  subst z
  simp [dt] at h
theorem up_low {v : Pt} (h : v ≠ (0, 0)) : low v = !up v := by
  obtain ⟨x, y⟩ := v
  simp only [up, low]
  by_cases h1 : 0 < y
  · have : ¬ y < 0 := by omega
    have h3 : ¬ y = 0 := by omega
    simp [h1, this, h3]
  · by_cases h2 : y < 0
    · have h3 : ¬ y = 0 := by omega
      simp [h1, h2, h3]
    · have h3 : y = 0 := by omega
      subst h3
      have h4 : x ≠ 0 := fun z => h (by rw [z])
      by_cases h5 : 0 < x
      · have : ¬ x < 0 := by omega
        simp [h5, this]
      · have : x < 0 := by omega
        simp [h5, this]
def lx (a b : Pt) : Prop := a.2 < b.2 ∨ (a.2 = b.2 ∧ a.1 < b.1)
theorem up_lx {a b : Pt} : up (sb b a) = true ↔ lx a b := by
  obtain ⟨a1, a2⟩ := a
  obtain ⟨b1, b2⟩ := b
  unfold up sb lx
  simp
  omega
theorem low_lx {a b : Pt} : low (sb b a) = true ↔ lx b a := by
  obtain ⟨a1, a2⟩ := a
  obtain ⟨b1, b2⟩ := b
  unfold low sb lx
  simp
  omega
theorem lx_trans {a b c : Pt} (h1 : lx a b) (h2 : lx b c) : lx a c := by unfold lx at *; omega
theorem lx_irrefl {a : Pt} : ¬ lx a a := by unfold lx; omega
/-- the corners can't rise all the way round -/
theorem no_rise {ps : List Pt} (hn : 2 ≤ ps.length) (R : Pt → Pt → Prop) (ht : ∀ a b c, R a b → R b c → R a c) (hi : ∀ a, ¬ R a a) (h : ∀ i, i < ps.length → R (gp ps i) (gp ps (nxt ps.length i))) : False := by
  have h1 : ∀ i, i + 1 < ps.length → R (gp ps 0) (gp ps (i + 1)) := by
    intro i
    induction i with
    | zero => intro hi; have := h 0 (by omega); rwa [nxt_succ hi] at this
    | succ i ih => intro hi; have h2 := h (i + 1) (by omega); rw [nxt_succ hi] at h2; exact ht _ _ _ (ih (by omega)) h2
  have h2 := h1 (ps.length - 2) (by omega)
  have h3 := h (ps.length - 1) (by omega)
  have e : nxt ps.length (ps.length - 1) = 0 := by unfold nxt; rw [Nat.sub_add_cancel (by omega), Nat.mod_self]
  rw [e] at h3
  rw [show ps.length - 2 + 1 = ps.length - 1 by omega] at h2
  exact hi _ (ht _ _ _ h2 h3)
theorem rnds_pos {ps : List Pt} (h : bendsOk ps) (hn : 2 ≤ ps.length) : 1 ≤ rnds ps := by
  have ne : ∀ i, i < ps.length → sd ps i ≠ (0, 0) := fun i hi => dt_pos_ne (h i hi)
  refine Classical.byContradiction fun hc => ?_
  have h0 : rnds ps = 0 := by omega
  unfold rnds at h0
  rw [List.length_eq_zero_iff, List.filter_eq_nil_iff] at h0
  have back : ∀ i, i < ps.length → up (sd ps i) = true → up (sd ps (prv ps.length i)) = true := fun i hi hu => by
    have := h0 i (List.mem_range.mpr hi)
    simpa [hu] using this
  have down : ∀ (k i : Nat), i < ps.length → up (sd ps i) = true → k ≤ i → up (sd ps (i - k)) = true := by
    intro k
    induction k with
    | zero => intro i _ hu _; exact hu
    | succ k ih =>
      intro i hi hu hk
      have h1 := ih i hi hu (by omega)
      have h2 := back (i - k) (by omega) h1
      have e : prv ps.length (i - k) = i - (k + 1) := by unfold prv; split <;> omega
      rwa [e] at h2
  by_cases hex : ∃ i, i < ps.length ∧ up (sd ps i) = true
  · obtain ⟨i, hi, hu⟩ := hex
    have z := down i i hi hu (Nat.le_refl _)
    rw [Nat.sub_self] at z
    have l := back 0 (by omega) z
    have e : prv ps.length 0 = ps.length - 1 := rfl
    rw [e] at l
    refine no_rise hn lx (fun _ _ _ => lx_trans) (fun _ => lx_irrefl) fun j hj => ?_
    have h3 := down (ps.length - 1 - j) (ps.length - 1) (by omega) l (by omega)
    rw [show ps.length - 1 - (ps.length - 1 - j) = j by omega] at h3
    exact up_lx.mp h3
  · refine no_rise hn (fun a b => lx b a) (fun _ _ _ h1 h2 => lx_trans h2 h1) (fun _ => lx_irrefl) fun j hj => ?_
    have hu : up (sd ps j) = false := by
      cases q : up (sd ps j) with
      | false => rfl
      | true => exact absurd ⟨j, hj, q⟩ hex
    have hl : low (sd ps j) = true := by rw [up_low (ne j hj), hu]; rfl
    exact low_lx.mp hl
theorem filter_shift (q : Nat → Bool) (n : Nat) : ((List.range n).filter fun k => q (prv n k)).length = ((List.range n).filter q).length := by
  cases n with
  | zero => rfl
  | succ m =>
    have e1 : (List.range (m + 1)).filter (fun k => q (prv (m + 1) k)) = (if q m then [0] else []) ++ ((List.range m).filter q).map (· + 1) := by
      rw [List.range_succ_eq_map, List.filter_cons, List.filter_map]
      have e : ((fun k => q (prv (m + 1) k)) ∘ Nat.succ) = q := by funext k; rfl
      rw [e]
      have e0 : prv (m + 1) 0 = m := rfl
      rw [e0]
      by_cases h : q m = true
      · rw [if_pos h, if_pos h]; rfl
      · rw [if_neg h, if_neg h]; rfl
    have e2 : (List.range (m + 1)).filter q = (List.range m).filter q ++ (if q m then [m] else []) := by
      rw [List.range_succ, List.filter_append, List.filter_cons]
      by_cases h : q m = true
      · rw [if_pos h, if_pos h]; rfl
      · rw [if_neg h, if_neg h]; rfl
    rw [e1, e2, List.length_append, List.length_append, List.length_map]
    split <;> simp <;> omega
theorem count_eq {ps : List Pt} (h : bendsOk ps) : lawRnds ps = rnds ps := by
  unfold lawRnds rnds
  rw [← filter_shift (fun i => up (sd ps i) && !up (sd ps (prv ps.length i)))]
  refine congrArg List.length (List.filter_congr fun k hk => ?_)
  have hk' := List.mem_range.mp hk
  have hp := prv_lt hk'
  have hpp := prv_lt hp
  have hb := h (prv ps.length k) hp
  have n1 := dt_pos_ne hb
  have n2 := dt_pos_ne (h _ hpp)
  unfold below wy
  rw [up_low n1, up_low n2]
  by_cases e : up (sd ps (prv ps.length (prv ps.length k))) = up (sd ps (prv ps.length k))
  · rw [if_pos (by rw [e]), decide_eq_true hb, e]
    cases up (sd ps (prv ps.length k)) <;> rfl
  · rw [if_neg (fun z => e (by simpa using z))]
    cases h1 : up (sd ps (prv ps.length (prv ps.length k))) <;> cases h2 : up (sd ps (prv ps.length k)) <;> simp_all
/-- the law's bend is the program's -/
theorem bend_eq {ps : List Pt} {k : Nat} (hk : k < ps.length) : dt (sb (gp ps k) (gp ps (prv ps.length k))) (sb (gp ps (nxt ps.length k)) (gp ps (prv ps.length k))) = dt (sd ps (prv ps.length k)) (sd ps k) := by
  unfold sd
  rw [nxt_prv hk]
  generalize gp ps k = a
  generalize gp ps (prv ps.length k) = b
  generalize gp ps (nxt ps.length k) = c
  obtain ⟨a1, a2⟩ := a
  obtain ⟨b1, b2⟩ := b
  obtain ⟨c1, c2⟩ := c
  simp only [dt, sb]
  have e1 : c2 - b2 = (c2 - a2) + (a2 - b2) := by omega
  have e2 : c1 - b1 = (c1 - a1) + (a1 - b1) := by omega
  rw [e1, e2, Int.mul_add, Int.mul_add, Int.mul_comm (a2 - b2) (a1 - b1)]
  omega
end PM
set_option maxHeartbeats 4000000
namespace G
open PySem PySem.Spec PyProof.Rows L2
theorem argBest_le (bt : Nat → Nat → Bool) : ∀ k, argBest bt k ≤ k
  | 0 => Nat.le_refl _
  | k + 1 => by
    have := argBest_le bt k
    simp only [argBest]
    split <;> omega
theorem bestAt_lt {ks : List (List Int)} (h : 0 < ks.length) : bestAt ks < ks.length := by
  have := argBest_le (fun i j => HT.lexLt (ks.getD i []) (ks.getD j [])) (ks.length - 1)
  unfold bestAt
  omega
/-- a comprehension over an enumeration -/
theorem enum_map {F : D → D} {ds : List D} : (enumL ds).map F = (List.range ds.length).map fun i : Nat => F (.tup [.int (i : Int), ds.getD i .non]) := by
  apply List.ext_getElem?
  intro i
  rw [List.getElem?_map, List.getElem?_map]
  by_cases hi : i < ds.length
  · have e : ds.getD i .non = ds[i] := by rw [List.getD_eq_getElem?_getD, List.getElem?_eq_getElem hi]; rfl
    rw [enumL_at (List.getElem?_eq_getElem hi), List.getElem?_range hi]
    show some (F _) = some (F (.tup [.int (i : Int), ds.getD i .non]))
    rw [e]
  · rw [List.getElem?_eq_none (by rw [enumL_length]; omega), List.getElem?_eq_none (by rw [List.length_range]; omega)]
    rfl
theorem atI_prv {α : Type} {xs : List α} {i : Nat} (hi : i < xs.length) : L2.atI xs ((i : Int) - 1) = xs[PM.prv xs.length i]? := by
  unfold L2.atI L2.ixN PM.prv
  by_cases h : i = 0
  · subst h
    rw [if_neg (by omega), if_pos (by omega), if_pos rfl]
    show xs[_]? = xs[_]?
    congr 1
    omega
  · rw [if_pos (by omega), if_pos (by omega), if_neg h]
    show xs[_]? = xs[_]?
    congr 1
    omega
end G
namespace K92
open PySem PySem.Spec PyProof.Rows L2 G PM
def ptD (p : Pt) : D := .tup [.int p.1, .int p.2]
@[simp] theorem ptD_dry {p : Pt} : (ptD p).dry = true := rfl
@[simp] theorem pt_x {p : Pt} {M : Mem} : idxD (ptD p) (.int 0) M = .ok (.int p.1) M := idx_tup0
@[simp] theorem pt_y {p : Pt} {M : Mem} : idxD (ptD p) (.int 1) M = .ok (.int p.2) M := idx_tup1
theorem pts_at {ps : List Pt} {i : Nat} (h : i < ps.length) : (ps.map ptD)[i]? = some (ptD (gp ps i)) := by
  rw [List.getElem?_map, List.getElem?_eq_getElem h]
  unfold gp
  rw [List.getD_eq_getElem?_getD, List.getElem?_eq_getElem h]
  rfl
theorem pts_getD {ps : List Pt} {i : Nat} (h : i < ps.length) : (ps.map ptD).getD i .non = ptD (gp ps i) := by
  rw [List.getD_eq_getElem?_getD, pts_at h]
  rfl
theorem pts_dry {ps : List Pt} : D.ltL 0 (ps.map ptD) = true := dryL_mem.mpr fun d hd => by
  obtain ⟨p, _, rfl⟩ := List.mem_map.mp hd
  rfl
/-- within 4 * 10 ^ 6 -/
def Bd (p : Pt) : Prop := -4000000 ≤ p.1 ∧ p.1 ≤ 4000000 ∧ -4000000 ≤ p.2 ∧ p.2 ≤ 4000000
/-- within 10 ^ 6 -/
def Bo (p : Pt) : Prop := -1000000 ≤ p.1 ∧ p.1 ≤ 1000000 ∧ -1000000 ≤ p.2 ∧ p.2 ≤ 1000000
theorem bd_sb {a b : Pt} (ha : Bo a) (hb : Bo b) : Bd (sb a b) := by
  obtain ⟨_, _, _, _⟩ := ha
  obtain ⟨_, _, _, _⟩ := hb
  unfold sb Bd
  refine ⟨?_, ?_, ?_, ?_⟩ <;> simp only <;> omega
theorem minus_eq (a b : Pt) (M : Mem) : m_minus [ptD a, ptD b] M = .ok (ptD (sb a b)) M := by
  refine runF_eq rfl rfl ?_
  simp [startD_eq, b_minus_, ptD, sb]
theorem mul4 {i j : Int} (h1 : -4000000 ≤ i) (h2 : i ≤ 4000000) {M : Mem} : mulD (.int i) (.int j) M = .ok (.int (i * j)) M := mulD_int (.inl ⟨by omega, by omega⟩)
theorem det_eq {a b : Pt} (ha : Bd a) (M : Mem) : m_det [ptD a, ptD b] M = .ok (.int (dt a b)) M := by
  refine runF_eq rfl rfl ?_
  simp [startD_eq, b_det_, mul4 ha.1 ha.2.1, mul4 ha.2.2.1 ha.2.2.2, dt]
theorem law_det_eq {a b : Pt} (ha : Bd a) (M : Mem) : m__law_det [ptD a, ptD b] M = .ok (.int (dt a b)) M := by
  refine runF_eq rfl rfl ?_
  simp [startD_eq, b__law_det_, mul4 ha.1 ha.2.1, mul4 ha.2.2.1 ha.2.2.2, dt]
theorem up_eq (a : Pt) (M : Mem) : m_is_upper [ptD a] M = .ok (.bl (up a)) M := by
  refine runF_eq rfl rfl ?_
  simp [startD_eq, b_is_upper_]
  by_cases h : 0 < a.2
  · simp [h, up]
  · by_cases h2 : a.2 = 0 <;> simp [h, h2, up]
theorem mod_nat {i n : Nat} (hn : 0 < n) {M : Mem} : modD (.int ((i : Int) + 1)) (.int n) M = .ok (.int ((nxt n i : Nat) : Int)) M := by
  rw [modD_int (by omega)]
  unfold nxt
  simp
theorem nxt_lt {n i : Nat} (hn : 0 < n) : nxt n i < n := Nat.mod_lt _ hn
theorem bo_gp {ps : List Pt} (hb : ∀ p ∈ ps, Bo p) {i : Nat} (h : i < ps.length) : Bo (gp ps i) := by
  unfold gp
  rw [List.getD_eq_getElem?_getD, List.getElem?_eq_getElem h]
  exact hb _ (List.getElem_mem h)
theorem sides_eq {ps : List Pt} (hn : 0 < ps.length) (hz : ps.length ≤ 16) (M : Mem) : m_sides [.tup (ps.map ptD)] M = .ok (.lst ((List.range ps.length).map fun i => ptD (sd ps i))) M := by
  have hd : D.dry (.lst ((List.range ps.length).map fun i => ptD (sd ps i))) = true := by
    rw [dry_lst]
    exact dryL_mem.mpr fun d hd => by
      obtain ⟨i, _, rfl⟩ := List.mem_map.mp hd
      rfl
  refine runF_eq rfl hd ?_
  have e : compL (fun _ => True) (tgSeq (tgCons (tgName 1) (tgCons (tgName 2) (tgNil)))) (cYes) (cCall m_minus (cCons (c2 idxD (cVar 0) (c2 modD (c2 addD (cVar 1) (cC (.int 1))) (cCall lenD (cCons (cVar 0) (cNil))))) (cCons (cVar 2) (cNil)))) (wipeD [some (D.tup (ps.map ptD)), none, none] [1, 2]) (enumL (ps.map ptD)) M
      = .ok ((List.range ps.length).map fun i => ptD (sd ps i)) M := by
    rw [compL_map (F := fun z => match z with | .tup [.int i, _] => ptD (sd ps i.toNat) | _ => .non) trivial]
    · rw [enum_map, List.length_map]
      rfl
    · intro z hz
      obtain ⟨i, x, hx, rfl⟩ := enumL_mem hz
      have hi : i < ps.length := by have := (List.getElem?_eq_some_iff.mp hx).1; rwa [List.length_map] at this
      rw [pts_at hi] at hx
      cases hx
      refine ⟨_, rfl, ?_⟩
      have e1 : idxD (.tup (ps.map ptD)) (.int ((nxt ps.length i : Nat) : Int)) M = .ok (ptD (gp ps (nxt ps.length i))) M := idx_tup (G.atI_nat (pts_at (nxt_lt hn)))
      simp [wipeD, mod_nat hn, e1, minus_eq, sd]
  have hz' : ps.length ≤ 1000000 := by omega
  simp [startD_eq, b_sides_, e, hz']
theorem sideAt {ps : List Pt} {i : Nat} (hi : i < ps.length) : ((List.range ps.length).map fun i => ptD (sd ps i))[i]? = some (ptD (sd ps i)) := by
  rw [List.getElem?_map, List.getElem?_range hi]
  rfl
theorem bd_sd {ps : List Pt} (hb : ∀ p ∈ ps, Bo p) {i : Nat} (h : i < ps.length) : Bd (sd ps i) := bd_sb (bo_gp hb (nxt_lt (by omega))) (bo_gp hb h)
def bendF (ps : List Pt) (z : D) : Option D := match z with
  | .tup [.int i, _] => if 0 < dt (sd ps (prv ps.length i.toNat)) (sd ps i.toNat) then none else some (.int i)
  | _ => none
open Classical in
theorem first_bend_ok {ps : List Pt} (hb : ∀ p ∈ ps, Bo p) (hn : 0 < ps.length) (hz : ps.length ≤ 16) (M : Mem) : ∃ d, m_first_bend [.tup (ps.map ptD)] M = .ok d M ∧ d.dry = true ∧ notN d M = .ok (.bl (!decide (bendsOk ps))) M := by
  have hS := sides_eq hn hz M
  generalize hL : ((List.range ps.length).map fun i => ptD (sd ps i)) = L at hS
  have hLl : L.length = ps.length := by rw [← hL]; simp
  have key := forL_check (gd := fun _ => True) (g := tgSeq (tgCons (tgName 2) (tgCons (tgName 3) (tgNil)))) (M := M) (ds := enumL L) (ρ := [some (.tup (ps.map ptD)), some (.lst L), none, none])
    (body := (cSeq (cIfS (cT (c2 leD (cCall m_det (cCons (c2 idxD (cVar 1) (c2 subD (cVar 2) (cC (.int 1)))) (cCons (cVar 3) (cNil)))) (cC (.int 0)))) (cSeq (cRet (cVar 2)) (cEnd)) (cEnd)) (cEnd)))
    (fun ρ => ∃ x y, ρ = [some (.tup (ps.map ptD)), some (.lst L), x, y]) (bendF ps) trivial ⟨none, none, rfl⟩ (by
      rintro z hz ρ ⟨x0, y0, rfl⟩
      obtain ⟨i, x, hx, rfl⟩ := enumL_mem hz
      have hi : i < ps.length := by have := (List.getElem?_eq_some_iff.mp hx).1; omega
      have hx' : L[i]? = some (ptD (sd ps i)) := by rw [← hL]; exact sideAt hi
      rw [hx'] at hx
      cases hx
      have e1 : idxD (.lst L) (.int ((i : Int) - 1)) M = .ok (ptD (sd ps (prv ps.length i))) M := idx_lst (by rw [atI_prv (by omega), hLl, ← hL]; exact sideAt (prv_lt hi))
      have e2 := det_eq (b := sd ps i) (bd_sd hb (prv_lt hi)) M
      refine ⟨_, rfl, ?_⟩
      by_cases hp : 0 < dt (sd ps (prv ps.length i)) (sd ps i)
      · refine .inl ⟨by simp [bendF, hp], _, ?_, some (.int i), some (ptD (sd ps i)), rfl⟩
        have hp' : ¬ dt (sd ps (prv ps.length i)) (sd ps i) ≤ 0 := by omega
        simp [e1, e2, hp']
      · refine .inr ⟨.int i, by simp [bendF, hp], ?_⟩
        have hp' : dt (sd ps (prv ps.length i)) (sd ps i) ≤ 0 := by omega
        simp [e1, e2, hp'])
  have hnone := enum_none (ds := L) (F := bendF ps) (p := fun i _ => decide (0 < dt (sd ps (prv ps.length i)) (sd ps i))) (fun i x _ => by simp [bendF])
  have hiff : (enumL L).findSome? (bendF ps) = none ↔ bendsOk ps := by
    rw [hnone]
    constructor
    · intro h i hi
      exact of_decide_eq_true (h i _ (show L[i]? = _ by rw [← hL]; exact sideAt hi))
    · intro h i x hx
      exact decide_eq_true (h i (by have := (List.getElem?_eq_some_iff.mp hx).1; omega))
  rcases key with ⟨r, hr, hk⟩ | ⟨hr, ρ', hk, x, y, rfl⟩
  · obtain ⟨z, hz, hzr⟩ := List.exists_of_findSome?_eq_some hr
    obtain ⟨i, x, hx, rfl⟩ := enumL_mem hz
    have hnb : ¬ bendsOk ps := fun h => by rw [hiff.mpr h] at hr; cases hr
    have hr2 : r = .int i := by
      by_cases hp : 0 < dt (sd ps (prv ps.length i)) (sd ps i)
      · simp [bendF, hp] at hzr
      · simpa [bendF, hp] using hzr.symm
    refine ⟨r, runF_eq rfl (by rw [hr2]; rfl) ?_, by rw [hr2]; rfl, ?_⟩
    · simp [startD_eq, b_first_bend_, hS, hk]
    · rw [hr2]
      simp [hnb]
  · have hyb : bendsOk ps := hiff.mp hr
    refine ⟨.non, runF_eq rfl rfl ?_, rfl, ?_⟩
    · simp [startD_eq, b_first_bend_, hS, hk]
    · simp [hyb]
end K92
set_option maxHeartbeats 4000000
namespace G
open PySem PySem.Spec PyProof.Rows L2
theorem enum_range {ds : List D} : enumL ds = (List.range ds.length).map fun i : Nat => .tup [.int (i : Int), ds.getD i .non] := by
  have := enum_map (F := id) (ds := ds)
  rwa [List.map_id] at this
theorem enum_count {ds : List D} {p : D → Bool} : ((enumL ds).filter p).length = ((List.range ds.length).filter fun i : Nat => p (.tup [.int (i : Int), ds.getD i .non])).length := by
  rw [enum_range, List.filter_map, List.length_map]
  rfl
end G
namespace K92
open PySem PySem.Spec PyProof.Rows L2 G PM
def upF : D → D
  | .tup [.int x, .int y] => .bl (up (x, y))
  | _ => .non
def trF (ps : List Pt) : D → Bool
  | .tup [.int i, _] => up (sd ps i.toNat) && !up (sd ps (prv ps.length i.toNat))
  | _ => false
def fstF : D → D
  | .tup [d, _] => d
  | _ => .non
theorem rounds_eq {ps : List Pt} (hn : 0 < ps.length) (hz : ps.length ≤ 16) (M : Mem) : m_rounds [.tup (ps.map ptD)] M = .ok (.int (rnds ps)) M := by
  have hS := sides_eq hn hz M
  refine runF_eq rfl rfl ?_
  generalize hL : ((List.range ps.length).map fun i => ptD (sd ps i)) = L at hS
  have hLl : L.length = ps.length := by rw [← hL]; simp
  have e1 : compL (fun _ => True) (tgName 2) (cYes) (cCall m_is_upper (cCons (cVar 2) (cNil))) (wipeD [some (D.tup (ps.map ptD)), none, none, none, none] [2]) L M = .ok (L.map upF) M := by
    refine compL_map trivial fun d hd => ?_
    rw [← hL] at hd
    obtain ⟨i, hi, rfl⟩ := List.mem_map.mp hd
    exact ⟨_, rfl, by simp [wipeD, up_eq]; rfl⟩
  generalize hU : L.map upF = U at e1
  have hUl : U.length = ps.length := by rw [← hU, List.length_map, hLl]
  have hUat : ∀ i, i < ps.length → U[i]? = some (.bl (up (sd ps i))) := fun i hi => by
    rw [← hU, List.getElem?_map, ← hL, sideAt hi]
    rfl
  have e2 : compL (fun _ => True) (tgSeq (tgCons (tgName 3) (tgCons (tgName 4) (tgNil)))) (cAnd (cT (cVar 4)) (cNot (cT (c2 idxD (cVar 1) (c2 subD (cVar 3) (cC (.int 1))))))) (cVar 3) (wipeD [some (D.tup (ps.map ptD)), some (.lst U), none, none, none] [3, 4]) (enumL U) M = .ok (((enumL U).filter (trF ps)).map fstF) M := by
    refine compL_filter trivial fun d hd => ?_
    obtain ⟨i, x, hx, rfl⟩ := enumL_mem hd
    have hi : i < ps.length := by have := (List.getElem?_eq_some_iff.mp hx).1; omega
    rw [hUat i hi] at hx
    cases hx
    have e3 : idxD (.lst U) (.int ((i : Int) - 1)) M = .ok (.bl (up (sd ps (prv ps.length i)))) M := idx_lst (by rw [atI_prv (by omega), hUl]; exact hUat _ (prv_lt hi))
    refine ⟨_, rfl, ?_, by simp [wipeD, fstF]⟩
    cases h : up (sd ps i) <;> simp [wipeD, e3, trF, h]
  have hcount : ((enumL U).filter (trF ps)).length = rnds ps := by
    rw [enum_count, hUl]
    rfl
  have hz1 : L.length ≤ 1000000 := by omega
  have hz2 : U.length ≤ 1000000 := by omega
  simp [startD_eq, b_rounds_, hS, e1, hz1, e2, hz2, hcount]
/-- the points, when all are -/
theorem pts_of {ds : List D} (h : ∀ d ∈ ds, isPt d 1000000 = true) : ∃ ps : List Pt, ds = ps.map ptD ∧ ∀ p ∈ ps, Bo p := by
  induction ds with
  | nil => exact ⟨[], rfl, fun p hp => absurd hp (by simp)⟩
  | cons d ds ih =>
    obtain ⟨ps, e1, e2⟩ := ih fun x hx => h x (List.mem_cons_of_mem _ hx)
    have h1 := h d List.mem_cons_self
    unfold isPt at h1
    split at h1
    · rename_i x y
      simp only [Bool.and_eq_true] at h1
      obtain ⟨i, rfl, i1, i2⟩ := within_int h1.1
      obtain ⟨j, rfl, j1, j2⟩ := within_int h1.2
      refine ⟨(i, j) :: ps, by rw [e1]; rfl, fun p hp => ?_⟩
      rcases List.mem_cons.mp hp with e | hp
      · subst e; exact ⟨i1, i2, j1, j2⟩
      · exact e2 p hp
    · cases h1
/-- whether the first corner is the least -/
def minB (ps : List Pt) : Bool := match eqD (ptD (gp ps 0)) (ptD (gp ps (bestAt (ps.map fun p => [p.1, p.2])))) [] with
  | .ok (.bl b) _ => b
  | _ => false
theorem eq_pt (p q : Pt) : ∃ b, ∀ M, eqD (ptD p) (ptD q) M = .ok (.bl b) M := by
  refine ⟨PyData.eqv (.tuple [.int p.1, .int p.2]) (.tuple [.int q.1, .int q.2]), fun M => ?_⟩
  have s : ∀ p : Pt, SeqAt.shaped (.tuple [.int p.1, .int p.2]) = true := fun p => by
    simp [SeqAt.shaped, PyData.canLay0, PyData.canLayAll0, PyData.depth, PyData.depthAll]
  have e : eqP (ptD p) (ptD q) M = some (PyData.eqv (.tuple [.int p.1, .int p.2]) (.tuple [.int q.1, .int q.2])) := by
    unfold eqP
    have e1 : ∀ p : Pt, toPM M (ptD p) = some (.tuple [.int p.1, .int p.2]) := fun _ => rfl
    rw [e1, e1]
    simp only [s, Bool.and_self, if_true]
  have e2 : eqB (ptD p) (ptD q) M = some (PyData.eqv (.tuple [.int p.1, .int p.2]) (.tuple [.int q.1, .int q.2])) := e
  unfold eqD
  rw [e2]
theorem min_eq {ps : List Pt} (hn : 0 < ps.length) (M : Mem) : minTD [.tup (ps.map ptD)] M = .ok (ptD (gp ps (bestAt (ps.map fun p => [p.1, p.2])))) M := by
  have e : asTups (ps.map ptD) = some (ps.map fun p => [p.1, p.2]) := by
    have := asTups_map (ps.map fun p : Pt => [p.1, p.2])
    rw [List.map_map] at this
    exact this
  have hlt : bestAt (ps.map fun p : Pt => [p.1, p.2]) < ps.length := by
    have := bestAt_lt (ks := ps.map fun p : Pt => [p.1, p.2]) (by rw [List.length_map]; exact hn)
    rwa [List.length_map] at this
  unfold minTD
  simp only [seqOf, e, pts_at hlt]
theorem first_eq {ps : List Pt} (hn : 0 < ps.length) (M : Mem) : eqD (ptD (gp ps 0)) (ptD (gp ps (bestAt (ps.map fun p => [p.1, p.2])))) M = .ok (.bl (minB ps)) M := by
  obtain ⟨b, h⟩ := eq_pt (gp ps 0) (gp ps (bestAt (ps.map fun p => [p.1, p.2])))
  rw [h M]
  unfold minB
  rw [h []]
/-- a polygon as the program tells it -/
def PolyP (v : D) : Prop := ∃ ps : List Pt, v = .tup (ps.map ptD) ∧ 3 ≤ ps.length ∧ ps.length ≤ 12 ∧ (∀ p ∈ ps, Bo p) ∧ bendsOk ps ∧ rnds ps = 1 ∧ minB ps = true
theorem ptD_inj {p q : Pt} (h : ptD p = ptD q) : p = q := by
  obtain ⟨a, b⟩ := p
  obtain ⟨c, d⟩ := q
  simp only [ptD] at h
  injection h with h
  injection h with h1 h2
  injection h2 with h2 h3
  injection h1 with h1
  injection h2 with h2
  rw [h1, h2]
theorem map_ptD_inj : ∀ {ps qs : List Pt}, ps.map ptD = qs.map ptD → ps = qs
  | [], [], _ => rfl
  | [], _ :: _, h => by simp at h
  | _ :: _, [], h => by simp at h
  | p :: ps, q :: qs, h => by
    rw [List.map_cons, List.map_cons] at h
    injection h with h1 h2
    rw [ptD_inj h1, map_ptD_inj h2]
theorem isPt_ptD {p : Pt} : isPt (ptD p) 1000000 = true ↔ Bo p := by
  simp [isPt, ptD, within, Bo]
  constructor
  · rintro ⟨⟨h1, h2⟩, h3, h4⟩; exact ⟨h1, h2, h3, h4⟩
  · rintro ⟨h1, h2, h3, h4⟩; exact ⟨⟨h1, h2⟩, h3, h4⟩
end K92
set_option maxHeartbeats 4000000
namespace K92
open PySem PySem.Spec PyProof.Rows L2 G PM
abbrev sPoint : Str := PySem.Str.ofString "point"
def badPt : D → Option D
  | .tup [i, x] => if isPt x 1000000 then none else some (.tup [.str sPoint, i])
  | _ => none
theorem badPt_none {ds : List D} : (enumL ds).findSome? badPt = none ↔ ∀ d ∈ ds, isPt d 1000000 = true := by
  rw [enum_none (p := fun _ x => isPt x 1000000) (fun i x _ => by simp [badPt])]
  constructor
  · intro h d hd
    obtain ⟨i, hi, e⟩ := List.mem_iff_getElem.mp hd
    exact h i d (by rw [List.getElem?_eq_getElem hi, e])
  · intro h i x hx
    exact h x (List.mem_of_getElem? hx)
theorem badPt_some {ds : List D} {r : D} (h : (enumL ds).findSome? badPt = some r) : ∃ i : Nat, r = .tup [.str sPoint, .int i] := by
  obtain ⟨z, hz, hzr⟩ := List.exists_of_findSome?_eq_some h
  obtain ⟨i, x, hx, rfl⟩ := enumL_mem hz
  by_cases hp : isPt x 1000000 = true
  · simp [badPt, hp] at hzr
  · exact ⟨i, by simpa [badPt, hp] using hzr.symm⟩
theorem tag_dry {s : Str} {i : Nat} : (D.tup [.str s, .int (i : Int)]).dry = true := by simp [dry_tup, D.ltL, D.lt]
open Classical in
theorem polygon_error_ok {v : D} (hv : Fine v) (M : Mem) : NoneIf (m_polygon_error [v] M) M (decide (PolyP v)) := by
  have fin : ∀ {d : D} {b : Bool}, b_polygon_error_ (startD 4 [v]) M = .rt d M → d.dry = true → isN d M = .ok (.bl b) M → decide (PolyP v) = b → NoneIf (m_polygon_error [v] M) M (decide (PolyP v)) := fun h h1 h2 h3 => ⟨_, runF_eq rfl h1 h, h1, by rw [h3]; exact h2⟩
  cases v with
  | tup ds =>
    obtain ⟨hl16, hall⟩ := fine_mem hv
    by_cases h3 : 3 ≤ ds.length
    · by_cases h12 : ds.length ≤ 12
      · have key := forL_check (gd := fun _ => True) (g := tgSeq (tgCons (tgName 1) (tgCons (tgName 2) (tgNil)))) (M := M) (ds := enumL ds) (ρ := startD 4 [.tup ds])
          (body := (cSeq (cIfS (cNot (cT (cCallD m_is_point [.int (1000000)] (cCons (cVar 2) (cNil))))) (cSeq (cRet (cTup (cCons (cC (.str (PySem.Str.ofString "point"))) (cCons (cVar 1) (cNil))))) (cEnd)) (cEnd)) (cEnd)))
          (fun ρ => ∃ x y, ρ = [some (.tup ds), x, y, none]) badPt trivial ⟨none, none, rfl⟩ (by
            rintro z hz ρ ⟨x0, y0, rfl⟩
            obtain ⟨i, x, hx, rfl⟩ := enumL_mem hz
            have hdx := (hall x (List.mem_of_getElem? hx)).dry
            refine ⟨_, rfl, ?_⟩
            by_cases hn : isPt x 1000000 = true
            · exact .inl ⟨by simp [badPt, hn], _, by simp [is_point_eq hdx, hn], some (.int i), some x, rfl⟩
            · exact .inr ⟨.tup [.str sPoint, .int i], by simp [badPt, hn], by simp [is_point_eq hdx, hn]⟩)
        have i3 : (3 : Int) ≤ ds.length := by omega
        have i12 : (ds.length : Int) ≤ 12 := by omega
        have hhead : ∀ q, forL (fun _ => True) (tgSeq (tgCons (tgName 1) (tgCons (tgName 2) (tgNil)))) (cSeq (cIfS (cNot (cT (cCallD m_is_point [.int (1000000)] (cCons (cVar 2) (cNil))))) (cSeq (cRet (cTup (cCons (cC (.str (PySem.Str.ofString "point"))) (cCons (cVar 1) (cNil))))) (cEnd)) (cEnd)) (cEnd)) (enumL ds) (startD 4 [.tup ds]) M = q →
            b_polygon_error_ (startD 4 [.tup ds]) M = q.then (cSeq (cAsg (cCall m_first_bend (cCons (cVar 0) (cNil))) (tgName 3)) (cSeq (cIfS (cT (c1 notN (cVar 3))) (cSeq (cRet (cTup (cCons (cC (.str (PySem.Str.ofString "bend"))) (cCons (cVar 3) (cNil))))) (cEnd)) (cEnd)) (cSeq (cIfS (cT (c2 neD (cCall m_rounds (cCons (cVar 0) (cNil))) (cC (.int 1)))) (cSeq (cRet (cC (.str (PySem.Str.ofString "round")))) (cEnd)) (cEnd)) (cSeq (cRet (cIf (cT (c2 eqD (c2 idxD (cVar 0) (cC (.int 0))) (cCall minTD (cCons (cVar 0) (cNil))))) (cC .non) (cC (.str (PySem.Str.ofString "first"))))) (cEnd))))) := by
          intro q hq
          rw [← hq]
          simp [startD_eq, b_polygon_error_, subTy, i3, i12]
        rcases key with ⟨r, hr, hk⟩ | ⟨hr, ρ', hk, x, y, rfl⟩
        · have hE := hhead _ hk
          rw [then_rt] at hE
          obtain ⟨i, rfl⟩ := badPt_some hr
          refine fin hE tag_dry rfl (decide_eq_false fun hp => ?_)
          obtain ⟨ps, e, _, _, hb, _⟩ := hp
          injection e with e
          have : (enumL ds).findSome? badPt = none := badPt_none.mpr fun d hd => by
            rw [e] at hd
            obtain ⟨p, hp, rfl⟩ := List.mem_map.mp hd
            exact isPt_ptD.mpr (hb p hp)
          rw [this] at hr
          cases hr
        · have hE := hhead _ hk
          rw [then_nx] at hE
          obtain ⟨ps, rfl, hb⟩ := pts_of (badPt_none.mp hr)
          rw [List.length_map] at h3 h12 hl16
          have hpoly : PolyP (.tup (ps.map ptD)) ↔ bendsOk ps ∧ rnds ps = 1 ∧ minB ps = true := by
            constructor
            · rintro ⟨qs, e, _, _, _, h1, h2, h3⟩
              injection e with e
              rw [map_ptD_inj e]
              exact ⟨h1, h2, h3⟩
            · rintro ⟨h1, h2, h3'⟩
              exact ⟨ps, rfl, h3, h12, hb, h1, h2, h3'⟩
          obtain ⟨bd, hbd, hbdry, hbn⟩ := first_bend_ok hb (by omega) hl16 M
          have hr1 := rounds_eq (ps := ps) (by omega) hl16 M
          have hm := min_eq (ps := ps) (by omega) M
          have hf := first_eq (ps := ps) (by omega) M
          have h0 : idxD (.tup (ps.map ptD)) (.int 0) M = .ok (ptD (gp ps 0)) M := idx_tup (G.atI_nat (n := 0) (pts_at (by omega)))
          by_cases hbend : bendsOk ps
          · rw [decide_eq_true hbend] at hbn
            by_cases hround : rnds ps = 1
            · have hround' : (rnds ps : Int) = 1 := by omega
              by_cases hmin : minB ps = true
              · refine fin (d := .non) (b := true) ?_ rfl rfl (decide_eq_true (hpoly.mpr ⟨hbend, hround, hmin⟩))
                rw [hE]
                simp [hbd, hbn, hr1, hround', h0, hm, hf, hmin]
              · refine fin (d := .str (PySem.Str.ofString "first")) (b := false) ?_ rfl rfl (decide_eq_false fun h => hmin (hpoly.mp h).2.2)
                rw [hE]
                simp [hbd, hbn, hr1, hround', h0, hm, hf, hmin]
            · have hround' : ¬ (rnds ps : Int) = 1 := by omega
              refine fin (d := .str (PySem.Str.ofString "round")) (b := false) ?_ rfl rfl (decide_eq_false fun h => hround (hpoly.mp h).2.1)
              rw [hE]
              simp [hbd, hbn, hr1, hround']
          · rw [decide_eq_false hbend] at hbn
            refine fin (d := .tup [.str (PySem.Str.ofString "bend"), bd]) (b := false) ?_ ?_ rfl (decide_eq_false fun h => hbend (hpoly.mp h).1)
            · rw [hE]
              simp [hbd, hbn]
            · rw [dry_tup]
              exact dryL_mem.mpr fun d hd => by
                rcases List.mem_cons.mp hd with e | hd
                · rw [e]; rfl
                · rw [List.mem_singleton.mp hd]; exact hbdry
      · refine fin (d := .str (PySem.Str.ofString "form")) (b := false) ?_ rfl rfl (decide_eq_false fun ⟨ps, e, _, h, _⟩ => ?_)
        · have i3 : (3 : Int) ≤ ds.length := by omega
          have i12 : ¬ (ds.length : Int) ≤ 12 := by omega
          simp [startD_eq, b_polygon_error_, subTy, i3, i12]
        · injection e with e
          rw [e, List.length_map] at h12
          exact h12 h
    · refine fin (d := .str (PySem.Str.ofString "form")) (b := false) ?_ rfl rfl (decide_eq_false fun ⟨ps, e, h, _, _⟩ => ?_)
      · have i3 : ¬ (3 : Int) ≤ ds.length := by omega
        simp [startD_eq, b_polygon_error_, subTy, i3]
      · injection e with e
        rw [e, List.length_map] at h3
        exact h3 h
  | ref n => exact absurd hv.dry (by simp)
  | _ => exact fin (d := .str (PySem.Str.ofString "form")) (b := false) (by simp [startD_eq, b_polygon_error_, subTy]) rfl rfl (decide_eq_false fun ⟨ps, e, _⟩ => by cases e)
end K92
set_option maxHeartbeats 4000000
namespace K92
open PySem PySem.Spec PyProof.Rows L2 G PM
theorem bend_law {a b c : Pt} (ha : Bo a) (hb : Bo b) (M : Mem) : m__law_bend [ptD a, ptD b, ptD c] M = .ok (.int (dt (sb b a) (sb c a))) M := by
  refine runF_eq rfl rfl ?_
  have e : D.tup [.int (b.1 - a.1), .int (b.2 - a.2)] = ptD (sb b a) := rfl
  have e2 : D.tup [.int (c.1 - a.1), .int (c.2 - a.2)] = ptD (sb c a) := rfl
  simp [startD_eq, b__law_bend_, e, e2, law_det_eq (bd_sb hb ha)]
def lowF : D → D
  | .tup [.int x, .int y] => .int (if low (x, y) then 1 else 0)
  | _ => .non
theorem below_eq {a b : Pt} (ha : Bd a) (M : Mem) : m__law_is_below [ptD a, ptD b] M = .ok (.bl (below a b)) M := by
  refine runF_eq rfl rfl ?_
  have e : compL (fun _ => True) (tgName 4) cYes (cCall intD (cCons (cOrV (c2 ltD (c2 idxD (cVar 4) (cC (.int 1))) (cC (.int 0))) (cAndV (c2 eqD (c2 idxD (cVar 4) (cC (.int 1))) (cC (.int 0))) (c2 ltD (c2 idxD (cVar 4) (cC (.int 0))) (cC (.int 0))))) (cNil))) (wipeD [some (ptD a), some (ptD b), none, none, none] [4]) [ptD a, ptD b] M = .ok ([ptD a, ptD b].map lowF) M := by
    refine compL_map trivial fun d hd => ?_
    have : ∃ p : Pt, d = ptD p := by
      rcases List.mem_cons.mp hd with e | hd
      · exact ⟨a, e⟩
      · exact ⟨b, List.mem_singleton.mp hd⟩
    obtain ⟨p, rfl⟩ := this
    refine ⟨_, rfl, ?_⟩
    by_cases h1 : p.2 < 0
    · simp [wipeD, h1, lowF, ptD, low]
    · by_cases h2 : p.2 = 0
      · by_cases h3 : p.1 < 0 <;> simp [wipeD, h2, h3, lowF, ptD, low]
      · simp [wipeD, h1, h2, lowF, ptD, low]
  have e1 : ∀ p : Pt, lowF (ptD p) = .int (if low p then 1 else 0) := fun p => rfl
  simp [startD_eq, b__law_is_below_, e, e1]
  cases h1 : low a <;> cases h2 : low b <;> simp [below, h1, h2, law_det_eq ha]
end K92
set_option maxHeartbeats 4000000
namespace G
open PySem PySem.Spec PyProof.Rows L2
theorem SatF.of_eq {f : Flow} {q : Fl} {g : Flow} (e : f = g) (h : SatF g q) : SatF f q := by rw [e]; exact h
/-- the last object of the store -/
theorem last_at {M : Mem} {o : O} : (M ++ [o])[M.length]? = some o := by simp
theorem last_set {M : Mem} {o o' : O} : (M ++ [o]).set M.length o' = M ++ [o'] := by simp
theorem lst_last {M : Mem} {ds : List D} : lstAt (M ++ [.lst ds]) M.length = some ds := by unfold lstAt; rw [last_at]
theorem app_last {M : Mem} {ds : List D} {y : D} (h : ds.length ≤ 1000000) : appD (.ref M.length) y (M ++ [.lst ds]) = .ok .non (M ++ [.lst (ds ++ [y])]) := by
  simp only [appD, lst_last, if_pos h, last_set]
theorem isLst_last {M : Mem} {ds : List D} : isLst (.ref M.length) (M ++ [.lst ds]) = .ok (.ref M.length) (M ++ [.lst ds]) := by
  simp only [isLst, lst_last]
theorem idx_last {M : Mem} {ds : List D} {i : Int} {d : D} (h : L2.atI ds i = some d) : idxD (.ref M.length) (.int i) (M ++ [.lst ds]) = .ok d (M ++ [.lst ds]) := by
  simp only [idxD, lstOf, last_at, h]
theorem back_dry {n : Nat} {P : D → Mem → Prop} {d : D} {M : Mem} {o : O} (hn : M.length = n) (hw : M.all (O.lt n) = true) (hd : d.dry = true) (h : P d M) : Back n P d (M ++ [o]) := by
  subst hn
  have e : (M ++ [o]).take M.length = M := by simp
  exact ⟨by unfold Wf; rw [e]; exact hw, .inl ⟨hd, by rw [e]; exact h⟩⟩
theorem back_same {n : Nat} {P : D → Mem → Prop} {d : D} {M : Mem} (hn : M.length = n) (hw : M.all (O.lt n) = true) (hd : d.dry = true) (h : P d M) : Back n P d M := by
  subst hn
  exact ⟨by unfold Wf; rw [List.take_length]; exact hw, .inl ⟨hd, by rw [List.take_length]; exact h⟩⟩
end G
namespace K92
open PySem PySem.Spec PyProof.Rows L2 G PM
def lowBad (ps : List Pt) : D → Bool
  | .int k => !below (wy ps (prv ps.length k.toNat)) (wy ps k.toNat)
  | _ => false
open Classical in
theorem polygon_fault_ok {v : D} (hv : Fine v) {M : Mem} (hM : M.all (O.lt M.length) = true) : NoneIf (m__law_polygon_fault [v] M) M (decide (PolyP v)) := by
  suffices h : Sat (m__law_polygon_fault [v] M) fun d M' => M' = M ∧ d.dry = true ∧ isN d M = .ok (.bl (decide (PolyP v))) M by
    obtain ⟨d, M', e, rfl, h1, h2⟩ := h.eq
    exact ⟨d, e, h1, h2⟩
  refine runF_sat rfl ?_
  generalize hP : (fun (d : D) (M' : Mem) => M' = M ∧ d.dry = true ∧ isN d M = .ok (.bl (decide (PolyP v))) M) = P
  have bk : ∀ {d : D} {b : Bool}, d.dry = true → isN d M = .ok (.bl b) M → decide (PolyP v) = b → Back M.length P d M := fun h1 h2 h3 => back_same rfl hM h1 (by rw [← hP]; exact ⟨rfl, h1, by rw [h3]; exact h2⟩)
  have bk2 : ∀ {d : D} {b : Bool} {o : O}, d.dry = true → isN d M = .ok (.bl b) M → decide (PolyP v) = b → Back M.length P d (M ++ [o]) := fun h1 h2 h3 => back_dry rfl hM h1 (by rw [← hP]; exact ⟨rfl, h1, by rw [h3]; exact h2⟩)
  generalize hq : (⟨fun _ M' => Back M.length P .non M', Back M.length P, fun _ _ => False, fun _ _ => False⟩ : Fl) = q
  have qrt : q.rt = Back M.length P := by rw [← hq]
  cases v with
  | tup ds =>
    obtain ⟨hl16, hall⟩ := fine_mem hv
    by_cases h3 : 3 ≤ ds.length
    · by_cases h12 : ds.length ≤ 12
      · have key := forL_check (gd := fun _ => True) (g := tgSeq (tgCons (tgName 1) (tgCons (tgName 2) (tgNil)))) (M := M) (ds := enumL ds) (ρ := startD 5 [.tup ds])
          (body := (cSeq (cIfS (cNot (cT (cCall m__law_is_pair (cCons (cVar 2) (cCons (cC (.int 1000000)) (cNil)))))) (cSeq (cRet (cTup (cCons (cC (.str (PySem.Str.ofString "point"))) (cCons (cVar 1) (cNil))))) (cEnd)) (cEnd)) (cEnd)))
          (fun ρ => ∃ x y, ρ = [some (.tup ds), x, y, none, none]) badPt trivial ⟨none, none, rfl⟩ (by
            rintro z hz ρ ⟨x0, y0, rfl⟩
            obtain ⟨i, x, hx, rfl⟩ := enumL_mem hz
            have hdx := (hall x (List.mem_of_getElem? hx)).dry
            refine ⟨_, rfl, ?_⟩
            by_cases hn : isPt x 1000000 = true
            · exact .inl ⟨by simp [badPt, hn], _, by simp [law_is_pair_eq hdx, hn], some (.int i), some x, rfl⟩
            · exact .inr ⟨.tup [.str sPoint, .int i], by simp [badPt, hn], by simp [law_is_pair_eq hdx, hn]⟩)
        have i3 : (3 : Int) ≤ ds.length := by omega
        have i12 : (ds.length : Int) ≤ 12 := by omega
        simp only [b__law_polygon_fault_, cSeq_at]
        simp [startD_eq, subTy, i3, i12]
        simp only [startD_eq, List.map_cons, List.map_nil, List.length_cons, List.length_nil, List.cons_append, List.nil_append, Nat.reduceSub, Nat.reduceAdd, List.replicate] at key
        rcases key with ⟨r, hr, hk⟩ | ⟨hr, ρ', hk, x, y, rfl⟩
        · rw [hk]
          obtain ⟨i, rfl⟩ := badPt_some hr
          simp only [satF_rt, qrt]
          refine bk tag_dry rfl (decide_eq_false fun hp => ?_)
          obtain ⟨ps, e, _, _, hb, _⟩ := hp
          injection e with e
          have : (enumL ds).findSome? badPt = none := badPt_none.mpr fun d hd => by
            rw [e] at hd
            obtain ⟨p, hp, rfl⟩ := List.mem_map.mp hd
            exact isPt_ptD.mpr (hb p hp)
          rw [this] at hr
          cases hr
        · rw [hk]
          obtain ⟨ps, rfl, hb⟩ := pts_of (badPt_none.mp hr)
          rw [List.length_map] at h3 h12 hl16
          have hpoly : PolyP (.tup (ps.map ptD)) ↔ bendsOk ps ∧ rnds ps = 1 ∧ minB ps = true := by
            constructor
            · rintro ⟨qs, e, _, _, _, h1, h2, h3⟩
              injection e with e
              rw [map_ptD_inj e]
              exact ⟨h1, h2, h3⟩
            · rintro ⟨h1, h2, h3'⟩
              exact ⟨ps, rfl, h3, h12, hb, h1, h2, h3'⟩
          simp
          refine forL_sat (fun es ρ M' => ∃ k x y, es = (enumL (ps.map ptD)).drop k ∧ k ≤ ps.length ∧ ρ = [some (.tup (ps.map ptD)), x, y, some (.int ps.length), some (.ref M.length)] ∧ M' = M ++ [.lst ((List.range k).map fun i => ptD (wy ps i))] ∧ ∀ i, i < k → 0 < dt (sd ps (prv ps.length i)) (sd ps i)) ?_ ?_ ⟨0, x, y, rfl, Nat.zero_le _, rfl, rfl, fun i hi => absurd hi (by omega)⟩
          · rintro ρ M' ⟨k, x, y, e1, hk, rfl, rfl, hb2⟩
            refine ⟨trivial, ?_⟩
            have hkn : k = ps.length := by
              have := congrArg List.length e1
              rw [List.length_drop, enumL_length, List.length_map] at this
              simp at this
              omega
            subst hkn
            have hbend : bendsOk ps := hb2
            generalize hW : ((List.range ps.length).map fun i => ptD (wy ps i)) = W
            have hWl : W.length = ps.length := by rw [← hW]; simp
            have hWat : ∀ i, i < ps.length → W[i]? = some (ptD (wy ps i)) := fun i hi => by rw [← hW, List.getElem?_map, List.getElem?_range hi]; rfl
            have e2 : compL (fun _ => True) (tgName 1) (cNot (cT (cCall m__law_is_below (cCons (c2 idxD (cVar 4) (c2 subD (cVar 1) (cC (.int 1)))) (cCons (c2 idxD (cVar 4) (cVar 1)) (cNil)))))) (cC (.int 1)) (wipeD [some (D.tup (ps.map ptD)), x, y, some (.int ps.length), some (.ref M.length)] [1]) (rangeL 0 ps.length) (M ++ [.lst W]) = .ok (((rangeL 0 ps.length).filter (lowBad ps)).map fun _ => .int 1) (M ++ [.lst W]) := by
              refine compL_filter trivial fun d hd => ?_
              obtain ⟨i, hi, rfl⟩ := range_mem hd
              have hi' : i < ps.length := by omega
              have f1 : idxD (.ref M.length) (.int ((i : Int) - 1)) (M ++ [.lst W]) = .ok (ptD (wy ps (prv ps.length i))) (M ++ [.lst W]) := idx_last (by rw [atI_prv (by omega), hWl]; exact hWat _ (prv_lt hi'))
              have f2 : idxD (.ref M.length) (.int (i : Int)) (M ++ [.lst W]) = .ok (ptD (wy ps i)) (M ++ [.lst W]) := idx_last (G.atI_nat (hWat i hi'))
              have hbd : Bd (wy ps (prv ps.length i)) := bd_sd hb (prv_lt (prv_lt hi'))
              exact ⟨_, rfl, by simp [wipeD, f1, f2, below_eq hbd, lowBad], by simp⟩
            have hcount : ((rangeL 0 ps.length).filter (lowBad ps)).length = rnds ps := by
              rw [← count_eq hbend]
              unfold rangeL lawRnds
              rw [List.filter_map, List.length_map, show ((ps.length : Int) - 0).toNat = ps.length by omega]
              refine congrArg List.length (List.filter_congr fun i _ => ?_)
              show lowBad ps (.int (0 + (i : Int))) = _
              simp [lowBad]
            have hrp := rnds_pos hbend (by omega)
            have hr62 := rng1_int (j := (ps.length : Int)) (M := M ++ [.lst W]) ⟨by omega, by omega⟩
            have hz : (rangeL 0 (ps.length : Int)).length ≤ 1000000 := by unfold rangeL; rw [List.length_map, List.length_range]; omega
            have hm := min_eq (ps := ps) (by omega) (M ++ [.lst W])
            have hf := first_eq (ps := ps) (by omega) (M ++ [.lst W])
            have h0 : idxD (.tup (ps.map ptD)) (.int 0) (M ++ [.lst W]) = .ok (ptD (gp ps 0)) (M ++ [.lst W]) := idx_tup (G.atI_nat (n := 0) (pts_at (by omega)))
            simp [hr62, hz, e2, hcount, h0, hm, hf, qrt]
            refine ⟨fun hr2 => ?_, fun hr2 => ⟨fun hmin => ?_, fun hmin => ?_⟩⟩
            · exact bk2 rfl rfl (decide_eq_false fun h => by have := (hpoly.mp h).2.1; omega)
            · exact bk2 rfl rfl (decide_eq_true (hpoly.mpr ⟨hbend, by omega, hmin⟩))
            · exact bk2 rfl rfl (decide_eq_false fun h => by have := (hpoly.mp h).2.2; simp_all)
          · rintro z es ρ M' ⟨k, x, y, e1, hk, rfl, rfl, hb2⟩
            refine ⟨trivial, ?_⟩
            have hkn : k < ps.length := by
              have := congrArg List.length e1
              rw [List.length_drop, enumL_length, List.length_map, List.length_cons] at this
              omega
            have hz : (enumL (ps.map ptD))[k]? = some z := by
              have := congrArg (·[0]?) e1
              simp only [List.getElem?_cons_zero, List.getElem?_drop, Nat.add_zero] at this
              exact this.symm
            rw [enumL_at (pts_at hkn)] at hz
            cases hz
            have e2 : es = (enumL (ps.map ptD)).drop (k + 1) := by
              have := congrArg List.tail e1
              rw [List.tail_cons, List.tail_drop] at this
              exact this
            refine ⟨_, rfl, ?_⟩
            have hn0 : 0 < ps.length := by omega
            generalize hMk : M ++ [.lst ((List.range k).map fun i => ptD (wy ps i))] = Mk
            have f1 : idxD (.tup (ps.map ptD)) (.int ((k : Int) - 1)) Mk = .ok (ptD (gp ps (prv ps.length k))) Mk := idx_tup (by rw [atI_prv (by rw [List.length_map]; exact hkn), List.length_map]; exact pts_at (prv_lt hkn))
            have f2 : idxD (.tup (ps.map ptD)) (.int ((nxt ps.length k : Nat) : Int)) Mk = .ok (ptD (gp ps (nxt ps.length k))) Mk := idx_tup (G.atI_nat (pts_at (nxt_lt hn0)))
            have f3 := bend_law (c := gp ps (nxt ps.length k)) (bo_gp hb (prv_lt hkn)) (bo_gp hb hkn) Mk
            rw [bend_eq hkn] at f3
            have happ : appD (.ref M.length) (.tup [.int ((gp ps k).1 - (gp ps (prv ps.length k)).1), .int ((gp ps k).2 - (gp ps (prv ps.length k)).2)]) Mk = .ok .non (M ++ [.lst ((List.range (k + 1)).map fun i => ptD (wy ps i))]) := by
              rw [← hMk, app_last (by rw [List.length_map, List.length_range]; omega), List.range_succ, List.map_append]
              have e : wy ps k = sb (gp ps k) (gp ps (prv ps.length k)) := by
                show sb _ _ = _
                rw [nxt_prv hkn]
              rw [List.map_singleton, e]
              rfl
            have hisl : isLst (.ref M.length) Mk = .ok (.ref M.length) Mk := by rw [← hMk]; exact isLst_last
            simp [f1, mod_nat hn0, f2, f3, hisl, happ]
            refine ⟨fun hle => ?_, fun hgt => ?_⟩
            · rw [← hMk, qrt]
              exact bk2 tag_dry rfl (decide_eq_false fun h => by have := (hpoly.mp h).1 k hkn; omega)
            · exact ⟨k + 1, e2, hkn, rfl, fun i hi => by
                by_cases e : i = k
                · subst e; omega
                · exact hb2 i (by omega)⟩
      · have i3 : (3 : Int) ≤ ds.length := by omega
        have i12 : ¬ (ds.length : Int) ≤ 12 := by omega
        simp [startD_eq, b__law_polygon_fault_, subTy, i3, i12, qrt]
        refine bk rfl rfl (decide_eq_false fun ⟨ps, e, _, h, _⟩ => ?_)
        injection e with e
        rw [e, List.length_map] at h12
        exact h12 h
    · have i3 : ¬ (3 : Int) ≤ ds.length := by omega
      simp [startD_eq, b__law_polygon_fault_, subTy, i3, qrt]
      refine bk rfl rfl (decide_eq_false fun ⟨ps, e, h, _, _⟩ => ?_)
      injection e with e
      rw [e, List.length_map] at h3
      exact h3 h
  | ref n => exact absurd hv.dry (by simp)
  | _ =>
    simp [startD_eq, b__law_polygon_fault_, subTy, qrt]
    exact bk rfl rfl (decide_eq_false fun ⟨ps, e, _⟩ => by cases e)
end K92
set_option maxHeartbeats 4000000
namespace K92
open PySem PySem.Spec PyProof.Rows L2 G PM
open Classical in
/-- what an item must be, by its sort -/
noncomputable def okI (sort : String) (v : D) : Bool :=
  if sort = "name" then isName v else if sort = "polygon" then decide (PolyP v) else if sort = "frame" then isFrame v else if sort = "point" then isPt v 1000000 else if sort = "corner" then within v 0 11 else within v 1 100
def sorts : List String := ["name", "polygon", "frame", "point", "corner", "scale"]
theorem s_ne (a b : String) (h : decide (PySem.Str.ofString a = PySem.Str.ofString b) = false) : (PySem.Str.ofString a = PySem.Str.ofString b) = False := eq_false (of_decide_eq_false h)
theorem is_item_eq {s : String} (hs : s ∈ sorts) {v : D} (hv : Fine v) (M : Mem) : m_is_item [.str (PySem.Str.ofString s), v] M = .ok (.bl (okI s v)) M := by
  refine runF_eq rfl rfl ?_
  have n1 := s_ne "polygon" "name" (by decide)
  have n2 := s_ne "frame" "name" (by decide)
  have n3 := s_ne "point" "name" (by decide)
  have n4 := s_ne "corner" "name" (by decide)
  have n5 := s_ne "scale" "name" (by decide)
  have n6 := s_ne "frame" "polygon" (by decide)
  have n7 := s_ne "point" "polygon" (by decide)
  have n8 := s_ne "corner" "polygon" (by decide)
  have n9 := s_ne "scale" "polygon" (by decide)
  have n10 := s_ne "point" "frame" (by decide)
  have n11 := s_ne "corner" "frame" (by decide)
  have n12 := s_ne "scale" "frame" (by decide)
  have n13 := s_ne "corner" "point" (by decide)
  have n14 := s_ne "scale" "point" (by decide)
  have n15 := s_ne "scale" "corner" (by decide)
  obtain ⟨pd, hp1, hp2, hp3⟩ := polygon_error_ok hv M
  obtain ⟨fd, hf1, hf2, hf3⟩ := frame_error_ok hv M
  simp only [sorts, List.mem_cons, List.not_mem_nil, or_false] at hs
  rcases hs with rfl | rfl | rfl | rfl | rfl | rfl
  · simp [startD_eq, b_is_item_, is_name_eq hv, okI]
  · simp [startD_eq, b_is_item_, n1, hp1, hp3, okI]
  · simp [startD_eq, b_is_item_, n2, n6, hf1, hf3, okI]
  · simp [startD_eq, b_is_item_, n3, n7, n10, is_point_eq hv.dry, okI]
  · simp [startD_eq, b_is_item_, n4, n8, n11, n13, is_within_eq hv.dry, okI]
  · simp [startD_eq, b_is_item_, n5, n9, n12, n14, n15, is_within_eq hv.dry, okI]
/-- the words, what their items are -/
def words : List (String × List String) := [("put", ["name", "polygon"]), ("drop", ["name"]), ("call", ["name", "name"]), ("move", ["name", "frame"]), ("more", ["name", "point"]), ("less", ["name", "corner"]), ("sum", ["name", "name"]), ("times", ["name", "scale"])]
theorem law_item1 {w : D} {v : D} (hv : Fine v) {M : Mem} : m__law_is_item [w, .int 1, v] M = .ok (.bl (isName v)) M := by
  refine runF_eq rfl rfl ?_
  simp [startD_eq, b__law_is_item_, law_is_name_eq hv]
theorem in_cs {x : Str} {M : Mem} : inD (.str x) (.tup [.str (PySem.Str.ofString "call"), .str (PySem.Str.ofString "sum")]) M = .ok (.bl (decide (x = PySem.Str.ofString "call") || decide (x = PySem.Str.ofString "sum"))) M := by
  have e : inB (.str x) (.tup [.str (PySem.Str.ofString "call"), .str (PySem.Str.ofString "sum")]) M = some (decide (x = PySem.Str.ofString "call") || decide (x = PySem.Str.ofString "sum")) := by
    simp only [inB, seqOf, flatD, List.all_cons, List.all_nil, Bool.and_self, if_true, memB, List.any_cons, List.any_nil, eqF, Bool.or_false]
    congr 1
    rw [Bool.eq_iff_iff]
    simp
    constructor <;> (rintro (h | h) <;> simp [h])
  unfold inD
  rw [e]
theorem law_item2 {w s : String} (hw : (w, ["name", s]) ∈ words) {v : D} (hv : Fine v) {M : Mem} (hM : M.all (O.lt M.length) = true) : m__law_is_item [.str (PySem.Str.ofString w), .int 2, v] M = .ok (.bl (okI s v)) M := by
  refine runF_eq rfl rfl ?_
  obtain ⟨pd, hp1, hp2, hp3⟩ := polygon_fault_ok hv hM
  have a1 := s_ne "put" "call" (by decide)
  have a2 := s_ne "put" "sum" (by decide)
  have b1 := s_ne "move" "call" (by decide)
  have b2 := s_ne "move" "sum" (by decide)
  have b3 := s_ne "move" "put" (by decide)
  have c1 := s_ne "more" "call" (by decide)
  have c2 := s_ne "more" "sum" (by decide)
  have c3 := s_ne "more" "put" (by decide)
  have c4 := s_ne "more" "move" (by decide)
  have d1 := s_ne "less" "call" (by decide)
  have d2 := s_ne "less" "sum" (by decide)
  have d3 := s_ne "less" "put" (by decide)
  have d4 := s_ne "less" "move" (by decide)
  have d5 := s_ne "less" "more" (by decide)
  have e1 := s_ne "times" "call" (by decide)
  have e2 := s_ne "times" "sum" (by decide)
  have e3 := s_ne "times" "put" (by decide)
  have e4 := s_ne "times" "move" (by decide)
  have e5 := s_ne "times" "more" (by decide)
  have e6 := s_ne "times" "less" (by decide)
  simp [words] at hw
  rcases hw with ⟨rfl, rfl⟩ | ⟨rfl, rfl⟩ | ⟨rfl, rfl⟩ | ⟨rfl, rfl⟩ | ⟨rfl, rfl⟩ | ⟨rfl, rfl⟩ | ⟨rfl, rfl⟩
  · simp [startD_eq, b__law_is_item_, in_cs, a1, a2, hp1, hp3, okI]
  · simp [startD_eq, b__law_is_item_, in_cs, law_is_name_eq hv, okI]
  · simp [startD_eq, b__law_is_item_, in_cs, b1, b2, b3, law_is_frame_eq hv, okI]
  · simp [startD_eq, b__law_is_item_, in_cs, c1, c2, c3, c4, law_is_pair_eq hv.dry, okI]
  · simp [startD_eq, b__law_is_item_, in_cs, d1, d2, d3, d4, d5, law_is_from_eq hv.dry, okI]
  · simp [startD_eq, b__law_is_item_, in_cs, law_is_name_eq hv, okI]
  · simp [startD_eq, b__law_is_item_, in_cs, e1, e2, e3, e4, e5, e6, law_is_from_eq hv.dry, okI]
end K92
set_option maxHeartbeats 4000000
namespace G
open PySem PySem.Spec PyProof.Rows L2
theorem memS {x : Str} {ss : List Str} : memB (.str x) (ss.map D.str) = decide (x ∈ ss) := by
  unfold memB
  rw [List.any_map, Bool.eq_iff_iff, List.any_eq_true]
  simp only [Function.comp_def, eqF, beq_iff_eq, decide_eq_true_eq]
  constructor
  · rintro ⟨y, h1, h2⟩; rw [← h2]; exact h1
  · intro h; exact ⟨x, h, rfl⟩
theorem flatS {ss : List Str} : (ss.map D.str).all flatD = true := by
  rw [List.all_map, List.all_eq_true]
  intro _ _
  rfl
theorem in_tupS {x : Str} {ss : List Str} {M : Mem} : inD (.str x) (.tup (ss.map D.str)) M = .ok (.bl (decide (x ∈ ss))) M := by
  have e : inB (.str x) (.tup (ss.map D.str)) M = some (decide (x ∈ ss)) := by
    simp only [inB, seqOf, flatS, show flatD (.str x) = true from rfl, Bool.and_self, if_true, memS]
  unfold inD
  rw [e]
theorem notIn_tupS {x : Str} {ss : List Str} {M : Mem} : notInD (.str x) (.tup (ss.map D.str)) M = .ok (.bl (!decide (x ∈ ss))) M := by
  have e : inB (.str x) (.tup (ss.map D.str)) M = some (decide (x ∈ ss)) := by
    simp only [inB, seqOf, flatS, show flatD (.str x) = true from rfl, Bool.and_self, if_true, memS]
  unfold notInD
  rw [e]
end G
namespace K92
open PySem PySem.Spec PyProof.Rows L2 G PM
def wordS : List Str := words.map fun p => PySem.Str.ofString p.1
/-- what the judges answer -/
def EdR (r : D) : Prop := r = .non ∨ (r = .str (PySem.Str.ofString "form") ∨ r = .str (PySem.Str.ofString "word") ∨ r = .str (PySem.Str.ofString "many")) ∨ r = .tup [.str (PySem.Str.ofString "item"), .int 1] ∨ r = .tup [.str (PySem.Str.ofString "item"), .int 2]
theorem EdR.dry {r : D} (h : EdR r) : r.dry = true := by
  rcases h with rfl | (rfl | rfl | rfl) | rfl | rfl <;> first | rfl | simp [dry_tup, D.ltL, D.lt]
theorem look_word {w : String} {ss : List String} (h : (w, ss) ∈ words) : lookS t_SORTS (PySem.Str.ofString w) = some (.tup (ss.map fun s => .str (PySem.Str.ofString s))) := by
  simp [words] at h
  rcases h with ⟨rfl, rfl⟩ | ⟨rfl, rfl⟩ | ⟨rfl, rfl⟩ | ⟨rfl, rfl⟩ | ⟨rfl, rfl⟩ | ⟨rfl, rfl⟩ | ⟨rfl, rfl⟩ | ⟨rfl, rfl⟩ <;> rfl
theorem look_none {x : Str} (h : x ∉ wordS) : lookS t_SORTS x = none := by
  unfold lookS
  rw [Option.map_eq_none_iff, List.find?_eq_none]
  intro kv hkv
  have : kv.1 ∈ wordS := by
    have e : t_SORTS.map (·.1) = wordS := rfl
    rw [← e]
    exact List.mem_map.mpr ⟨kv, hkv, rfl⟩
  simp only [decide_eq_true_eq]
  intro e
  rw [e] at this
  exact h this
theorem word_cases {w : String} {ss : List String} (h : (w, ss) ∈ words) : (w = "drop" ∧ ss = ["name"]) ∨ (∃ s, ss = ["name", s] ∧ s ∈ sorts ∧ (PySem.Str.ofString w = PySem.Str.ofString "drop") = False) := by
  simp [words] at h
  rcases h with ⟨rfl, rfl⟩ | ⟨rfl, rfl⟩ | ⟨rfl, rfl⟩ | ⟨rfl, rfl⟩ | ⟨rfl, rfl⟩ | ⟨rfl, rfl⟩ | ⟨rfl, rfl⟩ | ⟨rfl, rfl⟩
  · exact .inr ⟨_, rfl, by decide, s_ne _ _ (by decide)⟩
  · exact .inl ⟨rfl, rfl⟩
  · exact .inr ⟨_, rfl, by decide, s_ne _ _ (by decide)⟩
  · exact .inr ⟨_, rfl, by decide, s_ne _ _ (by decide)⟩
  · exact .inr ⟨_, rfl, by decide, s_ne _ _ (by decide)⟩
  · exact .inr ⟨_, rfl, by decide, s_ne _ _ (by decide)⟩
  · exact .inr ⟨_, rfl, by decide, s_ne _ _ (by decide)⟩
  · exact .inr ⟨_, rfl, by decide, s_ne _ _ (by decide)⟩
theorem in_words {x : Str} {M : Mem} : notInD (.str x) (.tup [.str (PySem.Str.ofString "put"), .str (PySem.Str.ofString "drop"), .str (PySem.Str.ofString "call"), .str (PySem.Str.ofString "move"), .str (PySem.Str.ofString "more"), .str (PySem.Str.ofString "less"), .str (PySem.Str.ofString "sum"), .str (PySem.Str.ofString "times")]) M = .ok (.bl (!decide (x ∈ wordS))) M :=
  notIn_tupS (ss := wordS)
theorem enum1 {a : D} : enumL [a] = [.tup [.int 0, a]] := rfl
theorem enum2 {a b : D} : enumL [a, b] = [.tup [.int 0, a], .tup [.int 1, b]] := rfl
theorem rl12 : rangeL 1 2 = [.int 1] := rfl
theorem rl13 : rangeL 1 3 = [.int 1, .int 2] := rfl
theorem edit_ok {v : D} (hv : Fine v) {M : Mem} (hM : M.all (O.lt M.length) = true) : ∃ r, EdR r ∧ m_edit_error [v] M = .ok r M ∧ m__law_edit_fault [v] M = .ok r M := by
  have fin : ∀ {r : D}, EdR r → b_edit_error_ (startD 4 [v]) M = .rt r M → b__law_edit_fault_ (startD 2 [v]) M = .rt r M → ∃ r, EdR r ∧ m_edit_error [v] M = .ok r M ∧ m__law_edit_fault [v] M = .ok r M := fun h h1 h2 => ⟨_, h, runF_eq rfl h.dry h1, runF_eq rfl h.dry h2⟩
  cases v with
  | tup ds =>
    obtain ⟨hl16, hall⟩ := fine_mem hv
    cases ds with
    | nil =>
      refine fin (r := .str (PySem.Str.ofString "form")) (.inr (.inl (.inl rfl))) ?_ ?_
      · simp [startD_eq, b_edit_error_, subTy]
      · simp [startD_eq, b__law_edit_fault_, subTy]
    | cons d0 ds =>
      by_cases hstr : ∃ x, d0 = .str x
      · obtain ⟨x, rfl⟩ := hstr
        by_cases hx : x ∈ wordS
        · obtain ⟨⟨w, ss⟩, hw, rfl⟩ := List.mem_map.mp hx
          have hlook := look_word hw
          have htab : ∀ M, tabD t_SORTS (.str (PySem.Str.ofString w)) M = .ok (.tup (ss.map fun s => .str (PySem.Str.ofString s))) M := fun M => by simp only [tabD, hlook]
          have hnot : ∀ M, tabNotInD t_SORTS (.str (PySem.Str.ofString w)) M = .ok (.bl false) M := fun M => by simp only [tabNotInD, hlook]; rfl
          have hx' : decide (PySem.Str.ofString w ∈ wordS) = true := decide_eq_true hx
          rcases word_cases hw with ⟨rfl, rfl⟩ | ⟨s, rfl, hs, hnd⟩
          · by_cases hl : ds.length = 1
            · obtain ⟨a, rfl⟩ : ∃ a, ds = [a] := by
                match ds, hl with
                | [a], _ => exact ⟨a, rfl⟩
              have ha : Fine a := hall a (by simp)
              have i1 : idxD (.tup [.str (PySem.Str.ofString "drop"), a]) (.int (0 + 1)) M = .ok a M := idx_tup1
              have h1 : m_is_item [.str (PySem.Str.ofString "name"), a] M = .ok (.bl (isName a)) M := by have := is_item_eq (s := "name") (by decide) ha M; simpa [okI] using this
              have h2 := law_item1 (w := .str (PySem.Str.ofString "drop")) ha (M := M)
              have r2 := rng2_int (i := 1) (j := 2) (M := M) (by decide)
              by_cases hn : isName a = true
              · refine fin (r := .non) (.inl rfl) ?_ ?_
                · simp [startD_eq, b_edit_error_, subTy, hnot, htab, enum1, forL, i1, h1, hn]
                · simp [startD_eq, b__law_edit_fault_, subTy, in_words, hx', r2, rl12, forL, h2, hn]
              · refine fin (r := .tup [.str (PySem.Str.ofString "item"), .int 1]) (.inr (.inr (.inl rfl))) ?_ ?_
                · simp [startD_eq, b_edit_error_, subTy, hnot, htab, enum1, forL, i1, h1, hn]
                · simp [startD_eq, b__law_edit_fault_, subTy, in_words, hx', r2, rl12, forL, h2, hn]
            · have hl' : ¬ ((ds.length : Int) + 1 = 2) := by omega
              refine fin (r := .str (PySem.Str.ofString "many")) (.inr (.inl (.inr (.inr rfl)))) ?_ ?_
              · have hl2 : ¬ ((ds.length : Int) = 1) := by omega
                simp [startD_eq, b_edit_error_, subTy, hnot, htab, hl', hl2]
              · simp [startD_eq, b__law_edit_fault_, subTy, in_words, hx', hl']
          · by_cases hl : ds.length = 2
            · obtain ⟨a, b, rfl⟩ : ∃ a b, ds = [a, b] := by
                match ds, hl with
                | [a, b], _ => exact ⟨a, b, rfl⟩
              have ha : Fine a := hall a (by simp)
              have hb : Fine b := hall b (by simp)
              have h1 : m_is_item [.str (PySem.Str.ofString "name"), a] M = .ok (.bl (isName a)) M := by have := is_item_eq (s := "name") (by decide) ha M; simpa [okI] using this
              have h2 := law_item1 (w := .str (PySem.Str.ofString w)) ha (M := M)
              have h3 := is_item_eq hs hb M
              have h4 := law_item2 hw hb hM
              have r2 := rng2_int (i := 1) (j := 3) (M := M) (by decide)
              by_cases hn : isName a = true
              · by_cases hm : okI s b = true
                · refine fin (r := .non) (.inl rfl) ?_ ?_
                  · simp [startD_eq, b_edit_error_, subTy, hnot, htab, enum2, forL, h1, hn, h3, hm]
                  · simp [startD_eq, b__law_edit_fault_, subTy, in_words, hx', hnd, r2, rl13, forL, h2, hn, h4, hm]
                · refine fin (r := .tup [.str (PySem.Str.ofString "item"), .int 2]) (.inr (.inr (.inr rfl))) ?_ ?_
                  · simp [startD_eq, b_edit_error_, subTy, hnot, htab, enum2, forL, h1, hn, h3, hm]
                  · simp [startD_eq, b__law_edit_fault_, subTy, in_words, hx', hnd, r2, rl13, forL, h2, hn, h4, hm]
              · refine fin (r := .tup [.str (PySem.Str.ofString "item"), .int 1]) (.inr (.inr (.inl rfl))) ?_ ?_
                · simp [startD_eq, b_edit_error_, subTy, hnot, htab, enum2, forL, h1, hn]
                · simp [startD_eq, b__law_edit_fault_, subTy, in_words, hx', hnd, r2, rl13, forL, h2, hn]
            · have hl' : ¬ ((ds.length : Int) + 1 = 3) := by omega
              refine fin (r := .str (PySem.Str.ofString "many")) (.inr (.inl (.inr (.inr rfl)))) ?_ ?_
              · have hl2 : ¬ ((ds.length : Int) = 2) := by omega
                have hl3 : ¬ ((ds.length : Int) + 1 = 1 + 1 + 1) := by omega
                simp [startD_eq, b_edit_error_, subTy, hnot, htab, hl', hl2, hl3]
              · simp [startD_eq, b__law_edit_fault_, subTy, in_words, hx', hnd, hl']
        · have hlook := look_none hx
          have hnot : ∀ M, tabNotInD t_SORTS (.str x) M = .ok (.bl true) M := fun M => by simp only [tabNotInD, hlook]; rfl
          have hx' : decide (x ∈ wordS) = false := decide_eq_false hx
          refine fin (r := .str (PySem.Str.ofString "word")) (.inr (.inl (.inr (.inl rfl)))) ?_ ?_
          · simp [startD_eq, b_edit_error_, subTy, hnot]
          · simp [startD_eq, b__law_edit_fault_, subTy, in_words, hx']
      · have hd0 : d0.dry = true := (hall d0 List.mem_cons_self).dry
        have hi : isiD "str" d0 M = .ok (.bl false) M := by
          cases d0 with
          | str x => exact absurd ⟨x, rfl⟩ hstr
          | ref n => simp at hd0
          | _ => simp [subTy]
        refine fin (r := .str (PySem.Str.ofString "form")) (.inr (.inl (.inl rfl))) ?_ ?_
        · simp [startD_eq, b_edit_error_, subTy, hi]
        · simp [startD_eq, b__law_edit_fault_, subTy, hi]
  | ref n => exact absurd hv.dry (by simp)
  | _ =>
    refine fin (r := .str (PySem.Str.ofString "form")) (.inr (.inl (.inl rfl))) ?_ ?_
    · simp [startD_eq, b_edit_error_, subTy]
    · simp [startD_eq, b__law_edit_fault_, subTy]
end K92
set_option maxHeartbeats 4000000
namespace K92
open PySem PySem.Spec PyProof.Rows L2 G PM
theorem EdR.fine {r : D} (h : EdR r) : Fine (.lst [r, r]) := by
  refine fine_of_fineN (b := true) (n := 2) (by decide) ?_
  rcases h with rfl | (rfl | rfl | rfl) | rfl | rfl <;> decide +kernel
theorem is_right_ok {v : D} (hv : Fine v) {M : Mem} (hM : M.all (O.lt M.length) = true) : m__law_is_right [v] M = .ok (.bl true) M := by
  refine runF_eq rfl rfl ?_
  obtain ⟨r, hr, h1, h2⟩ := edit_ok hv hM
  obtain ⟨s1, e1⟩ := repr_fine hv
  obtain ⟨s2, e2⟩ := repr_fine hr.fine
  simp [startD_eq, b__law_is_right_, e1, h1, h2, e2, permL]
end K92
set_option maxHeartbeats 4000000
namespace G
open PySem PySem.Spec PyProof.Rows L2
@[simp] theorem cDPut_at {fo fa fv : SemE} {ρ : Env} {M : Mem} : cDPut fo fa fv ρ M = (fv ρ M).flow fun v M1 => (fo ρ M1).flow fun x M2 => (fa ρ M2).flow fun y M3 => match x, keyD y with
  | .ref n, some key => match dicAt M3 n with
    | some kvs => if kvs.length ≤ 1000000 then .nx ρ (M3.set n (.dic (putD kvs key v))) else .bad
    | none => .bad
  | _, _ => .bad := rfl
@[simp] theorem keyD_str {s : Str} : keyD (.str s) = some (.inr s) := rfl
theorem toPL_ints : ∀ is : List Int, D.toPL (is.map D.int) = some (is.map PyData.int)
  | [] => rfl
  | i :: is => by simp only [List.map_cons, D.toPL, D.toP, toPL_ints is, Option.bind_some, Option.map_some]
theorem lay_ints : ∀ is : List Int, PyData.canLayAll0 (is.map PyData.int) = true
  | [] => rfl
  | i :: is => by simp only [List.map_cons, PyData.canLayAll0, PyData.canLay0, lay_ints is, Bool.and_self]
theorem ltL_ints {n : Nat} : ∀ is : List Int, D.ltL n (is.map D.int) = true
  | [] => rfl
  | i :: is => by simp only [List.map_cons, D.ltL, D.lt, ltL_ints is, Bool.and_self]
/-- a list of ints at n, compared with [] -/
theorem neD_ints {M : Mem} {n : Nat} {is : List Int} (h : M[n]? = some (.lst (is.map D.int))) : neD (.ref n) (.lst []) M = .ok (.bl (!is.isEmpty)) M := by
  have e : eqP (.ref n) (.lst []) M = some is.isEmpty := by
    have e1 : toPM M (.ref n) = some (.list (is.map PyData.int)) := by
      show (match M[n]? with
        | some (.lst ds) => (D.toPL ds).map PyData.list
        | _ => none) = _
      rw [h]
      show (D.toPL (is.map D.int)).map PyData.list = _
      rw [toPL_ints]
      rfl
    have e2 : toPM M (.lst []) = some (.list []) := rfl
    have s1 : SeqAt.shaped (.list (is.map PyData.int)) = true := by
      have hd : PyData.depth (.list (is.map PyData.int)) ≤ 64 := by
        simp only [PyData.depth, PySem.W.depth_ints]
        omega
      unfold SeqAt.shaped
      simp only [PyData.canLay0, lay_ints, Bool.true_and, decide_eq_true_eq]
      exact hd
    have s2 : SeqAt.shaped (.list []) = true := by decide
    unfold eqP
    rw [e1, e2]
    simp only [s1, s2, Bool.and_self, if_true]
    cases is <;> rfl
  have e2 : neB (.ref n) (.lst []) M = some is.isEmpty := e
  unfold neD
  rw [e2]
end G
namespace K92
open PySem PySem.Spec PyProof.Rows L2 G PM
abbrev kG : Str := PySem.Str.ofString "great"
abbrev kM : Str := PySem.Str.ofString "mixed"
abbrev kT : Str := PySem.Str.ofString "turn"
/-- the law's deck: great numbers at 0, the deck at 1, other things behind -/
def St (gs : List Int) (a t : Int) (X : Mem) : Mem := .lst (gs.map D.int) :: .dic [(.inr kG, .ref 0), (.inr kM, .int a), (.inr kT, .int t)] :: X
section
variable {gs : List Int} {a t : Int} {X : Mem}
theorem dg1 : dgetD (.ref 1) (.str kG) (St gs a t X) = .ok (.ref 0) (St gs a t X) := rfl
theorem dg2 : dgetD (.ref 1) (.str kM) (St gs a t X) = .ok (.int a) (St gs a t X) := rfl
theorem dg3 : dgetD (.ref 1) (.str kT) (St gs a t X) = .ok (.int t) (St gs a t X) := rfl
theorem d_at : dicAt (St gs a t X) 1 = some [(.inr kG, .ref 0), (.inr kM, .int a), (.inr kT, .int t)] := rfl
theorem d_put {v : Int} : (St gs a t X).set 1 (.dic (putD [(.inr kG, .ref 0), (.inr kM, .int a), (.inr kT, .int t)] (.inr kT) (.int v))) = St gs a v X := rfl
theorem d_is : isLst (.ref 0) (St gs a t X) = .ok (.ref 0) (St gs a t X) := rfl
theorem d_pop {o : Int} : popD (.ref 0) (St (gs ++ [o]) a t X) = .ok (.int o) (St gs a t X) := by
  have h : lstAt (St (gs ++ [o]) a t X) 0 = some ((gs ++ [o]).map D.int) := rfl
  simp only [popD, h]
  have e : ((gs ++ [o]).map D.int).getLast? = some (.int o) := by simp
  have e2 : ((gs ++ [o]).map D.int).dropLast = gs.map D.int := by simp
  rw [e, e2]
  rfl
theorem d_app {o : Int} (h : gs.length ≤ 1000000) : appD (.ref 0) (.int o) (St gs a t X) = .ok .non (St (gs ++ [o]) a t X) := by
  have h1 : lstAt (St gs a t X) 0 = some (gs.map D.int) := rfl
  simp only [appD, h1, List.length_map, if_pos h]
  have e : gs.map D.int ++ [.int o] = (gs ++ [o]).map D.int := by simp
  rw [e]
  rfl
theorem d_ne : neD (.ref 0) (.lst []) (St gs a t X) = .ok (.bl (!gs.isEmpty)) (St gs a t X) := neD_ints rfl
end
/-- what stands behind the deck knows only the store -/
def WX (X : Mem) : Prop := X.all (O.lt (X.length + 2)) = true
theorem wf_St {gs : List Int} {a t : Int} {X : Mem} (h : WX X) : (St gs a t X).all (O.lt (St gs a t X).length) = true := by
  have e : (St gs a t X).length = X.length + 2 := rfl
  rw [e]
  show (O.lt _ (.lst _) && (O.lt _ (.dic _) && X.all _)) = true
  have h1 : O.lt (X.length + 2) (.lst (gs.map D.int)) = true := ltL_ints gs
  have h2 : O.lt (X.length + 2) (.dic [(.inr kG, .ref 0), (.inr kM, .int a), (.inr kT, .int t)]) = true := by simp [O.lt, D.lt]
  rw [h1, h2]
  exact h
/-- the store with the deck -/
def Dk (X M : Mem) : Prop := ∃ gs a t, M = St gs a t X ∧ gs.length ≤ 63
theorem Dk.wf {X M : Mem} (h : Dk X M) (hX : WX X) : M.all (O.lt M.length) = true := by
  obtain ⟨gs, a, t, rfl, _⟩ := h
  exact wf_St hX
theorem Dk.len {X M : Mem} (h : Dk X M) : M.length = X.length + 2 := by
  obtain ⟨gs, a, t, rfl, _⟩ := h
  rfl
theorem next_ok {X M : Mem} (hX : WX X) (h : Dk X M) {many : Int} (h0 : 0 ≤ many) (h1 : many < 1073741824) : Sat (m__law_next [.ref 1, .int many] M) fun d M' => Dk X M' ∧ ∃ r, d = .int r ∧ 0 ≤ r ∧ (r = 0 ∨ r < many) := by
  obtain ⟨gs, a, t, rfl, hl⟩ := h
  have bk : ∀ {gs' : List Int} {a' t' r : Int}, gs'.length ≤ 63 → 0 ≤ r → (r = 0 ∨ r < many) → Back (St gs a t X).length (fun d M' => Dk X M' ∧ ∃ r, d = .int r ∧ 0 ≤ r ∧ (r = 0 ∨ r < many)) (.int r) (St gs' a' t' X) := fun h1 h2 h3 => back_same rfl (wf_St hX) rfl ⟨⟨_, _, _, rfl, h1⟩, _, rfl, h2, h3⟩
  refine runF_sat rfl ?_
  simp only [startD_eq, b__law_next_]
  by_cases h2 : many < 2
  · simp [h2]
    exact bk hl (by omega) (.inl rfl)
  · rcases List.eq_nil_or_concat gs with rfl | ⟨gs0, o, rfl⟩
    · have hm : ∀ {z : Int} {M : Mem}, modD (.int z) (.int many) M = .ok (.int (z % many)) M := fun {z} {M} => modD_int (by omega)
      have hm1 : ∀ {z : Int} {M : Mem}, modD (.int z) (.int 4294967279) M = .ok (.int (z % 4294967279)) M := fun {z} {M} => modD_int (by decide)
      have hm2 : ∀ {z : Int} {M : Mem}, modD (.int z) (.int 4294967231) M = .ok (.int (z % 4294967231)) M := fun {z} {M} => modD_int (by decide)
      have hm3 : ∀ {z : Int} {M : Mem}, modD (.int z) (.int 4294967197) M = .ok (.int (z % 4294967197)) M := fun {z} {M} => modD_int (by decide)
      have hf : ∀ {z : Int} {M : Mem}, fdivD (.int z) (.int 128) M = .ok (.int (z / 128)) M := fun {z} {M} => fdivD_int (by decide)
      have hx1 : ∀ {z : Int} {M : Mem}, mulD (.int z) (.int 2654435761) M = .ok (.int (z * 2654435761)) M := fun {z} {M} => mulD_int (.inr (by decide))
      have hx2 : ∀ {z : Int} {M : Mem}, mulD (.int z) (.int 40503) M = .ok (.int (z * 40503)) M := fun {z} {M} => mulD_int (.inr (by decide))
      have hs1 : ∀ {z : Int} {M : Mem}, mulD (.int (z % 4294967279)) (.int (z % 4294967279)) M = .ok (.int (z % 4294967279 * (z % 4294967279))) M := fun {z} {M} => mulD_int (.inl (by omega))
      have hs2 : ∀ {z : Int} {M : Mem}, mulD (.int (z % 4294967231)) (.int (z % 4294967231)) M = .ok (.int (z % 4294967231 * (z % 4294967231))) M := fun {z} {M} => mulD_int (.inl (by omega))
      simp [h2, dg1, d_ne, dg3, d_at, d_put, dg2, hx1, hm1, hs1, hx2, hm2, hs2, hm3, hf, hm]
      exact bk (by simp) (Int.emod_nonneg _ (by omega)) (.inr (Int.emod_lt_of_pos _ (by omega)))
    · rw [List.concat_eq_append] at *
      have hlen : gs0.length + 1 ≤ 63 := by simpa using hl
      have hm : ∀ {z : Int} {M : Mem}, modD (.int z) (.int many) M = .ok (.int (z % many)) M := fun {z} {M} => modD_int (by omega)
      have hf : ∀ {z : Int} {M : Mem}, fdivD (.int z) (.int many) M = .ok (.int (z / many)) M := fun {z} {M} => fdivD_int (by omega)
      have ha : ∀ {o : Int}, appD (.ref 0) (.int o) (St gs0 a t X) = .ok .non (St (gs0 ++ [o]) a t X) := d_app (by omega)
      simp [h2, dg1, d_ne, d_is, d_pop, hm, hf, ha]
      refine ⟨fun _ => ?_, fun _ => ?_⟩
      · exact bk (by simpa using hlen) (Int.emod_nonneg _ (by omega)) (.inr (Int.emod_lt_of_pos _ (by omega)))
      · exact bk (by omega) (Int.emod_nonneg _ (by omega)) (.inr (Int.emod_lt_of_pos _ (by omega)))
theorem pick_ok {X M : Mem} (hX : WX X) (h : Dk X M) {ds : List D} (hne : ds ≠ []) (hlen : ds.length ≤ 1000) (hd : D.ltL 0 ds = true) : Sat (m__law_pick [.ref 1, .lst ds] M) fun d M' => Dk X M' ∧ d ∈ ds := by
  refine runF_sat rfl ?_
  simp only [startD_eq, b__law_pick_]
  simp
  have hn : 0 < ds.length := List.length_pos_iff.mpr hne
  refine (next_ok hX h (many := ds.length) (by omega) (by omega)).imp ?_
  rintro d M' ⟨h', r, rfl, r0, r1⟩
  have hr : r < ds.length := by omega
  obtain ⟨n, rfl⟩ := Int.eq_ofNat_of_zero_le r0
  have hn' : n < ds.length := by omega
  have e : idxD (.lst ds) (.int n) M' = .ok ds[n] M' := idx_lst (G.atI_nat (List.getElem?_eq_getElem hn'))
  simp [e]
  exact back_same (h'.len.trans h.len.symm) (by have := h'.wf hX; rwa [h'.len.trans h.len.symm] at this) (dryL_mem.mp hd _ (List.getElem_mem hn')) ⟨h', List.getElem_mem hn'⟩
end K92
set_option maxHeartbeats 4000000
namespace K92
open PySem PySem.Spec PyProof.Rows L2 G PM
theorem pairKeys_pts : ∀ ps : List Pt, pairKeys (ps.map fun p => .tup [ptD p, .bl true]) = some (ps.map fun p => [p.1, p.2])
  | [] => rfl
  | p :: ps => by
    have e : pairKey (.tup [ptD p, .bl true]) = some [p.1, p.2] := rfl
    simp only [List.map_cons, pairKeys, e, pairKeys_pts ps, Option.bind_some, Option.map_some]
theorem rows_of (ps : List Pt) : ∃ rs : List Pt, (sortRows (firstsL (ps.map fun p => [p.1, p.2]))).map rowD = rs.map ptD ∧ (∀ r ∈ rs, r ∈ ps) ∧ rs.length ≤ ps.length := by
  have h : ∀ ks : List (List Int), (∀ k ∈ ks, k ∈ ps.map fun p => [p.1, p.2]) → ∃ rs : List Pt, ks.map rowD = rs.map ptD ∧ (∀ r ∈ rs, r ∈ ps) ∧ rs.length = ks.length := by
    intro ks
    induction ks with
    | nil => intro _; exact ⟨[], rfl, fun r hr => absurd hr (by simp), rfl⟩
    | cons k ks ih =>
      intro h
      obtain ⟨rs, e1, e2, e3⟩ := ih fun x hx => h x (List.mem_cons_of_mem _ hx)
      obtain ⟨p, hp, rfl⟩ := List.mem_map.mp (h k List.mem_cons_self)
      refine ⟨p :: rs, by rw [List.map_cons, List.map_cons, e1]; rfl, fun r hr => ?_, by simp [e3]⟩
      rcases List.mem_cons.mp hr with e | hr
      · rw [e]; exact hp
      · exact e2 r hr
  obtain ⟨rs, e1, e2, e3⟩ := h _ fun k hk => sortRows_mem hk
  refine ⟨rs, e1, e2, ?_⟩
  rw [e3]
  have := sortRows_len (ps.map fun p : Pt => [p.1, p.2])
  rwa [List.length_map] at this
theorem cut_pts (qs : List Pt) (l h : Option Int) : ∃ rs : List Pt, G.cutD (qs.map ptD) l h = rs.map ptD ∧ (∀ r ∈ rs, r ∈ qs) ∧ rs.length ≤ qs.length := by
  unfold G.cutD
  rw [List.length_map]
  refine ⟨(qs.drop (HT.sIx qs.length 0 l)).take (HT.sIx qs.length qs.length h - HT.sIx qs.length 0 l), by rw [List.map_take, List.map_drop], fun r hr => List.mem_of_mem_drop (List.mem_of_mem_take hr), ?_⟩
  rw [List.length_take, List.length_drop]
  omega
theorem pop_last {M : Mem} {ds : List D} {d : D} : popD (.ref M.length) (M ++ [.lst (ds ++ [d])]) = .ok d (M ++ [.lst ds]) := by
  simp only [popD, lst_last]
  simp
theorem len_last {M : Mem} {ds : List D} : lenD [.ref M.length] (M ++ [.lst ds]) = .ok (.int ds.length) (M ++ [.lst ds]) := by
  simp only [lenD, last_at]
theorem atI_m1 {α : Type} {xs : List α} {x : α} : L2.atI (xs ++ [x]) (-1) = some x := L2.atI_last xs x
theorem atI_m2 {α : Type} {xs : List α} {x y : α} : L2.atI (xs ++ [y, x]) (-2) = some y := by
  unfold L2.atI L2.ixN
  rw [if_neg (by omega), if_pos (by simp; omega)]
  have e : ((-2 : Int) + ((xs ++ [y, x]).length : Nat)).toNat = xs.length := by simp; omega
  rw [e]
  simp
/-- the points that the hull starts from, small -/
def Sm (p : Pt) : Prop := -1000 ≤ p.1 ∧ p.1 ≤ 1000 ∧ -1000 ≤ p.2 ∧ p.2 ≤ 1000
theorem Sm.bo {p : Pt} (h : Sm p) : Bo p := by unfold Sm at h; unfold Bo; omega
/-- a list of points out of ps -/
def SubD (ps : List Pt) (n : Nat) (d : D) : Prop := ∃ qs : List Pt, d = .lst (qs.map ptD) ∧ (∀ q ∈ qs, q ∈ ps) ∧ qs.length ≤ n
theorem hull_ok {ps : List Pt} (hs : ∀ p ∈ ps, Sm p) (hl : ps.length ≤ 16) {M : Mem} (hM : M.all (O.lt M.length) = true) : Sat (m__law_hull [.lst (ps.map ptD)] M) fun d M' => M' = M ∧ ∃ qs : List Pt, d = .tup (qs.map ptD) ∧ ∀ q ∈ qs, q ∈ ps := by
  refine runF_sat rfl ?_
  generalize hP : (fun (d : D) (M' : Mem) => M' = M ∧ ∃ qs : List Pt, d = .tup (qs.map ptD) ∧ ∀ q ∈ qs, q ∈ ps) = P
  have bk : ∀ {qs : List Pt} {J : Mem}, (∀ q ∈ qs, q ∈ ps) → Back M.length P (.tup (qs.map ptD)) (M ++ J) := fun h => back_junk rfl hM (by rw [dry_tup]; exact pts_dry) (by rw [← hP]; exact ⟨rfl, _, rfl, h⟩)
  generalize hq : (⟨fun _ M' => Back M.length P .non M', Back M.length P, fun _ _ => False, fun _ _ => False⟩ : Fl) = q
  have qrt : q.rt = Back M.length P := by rw [← hq]
  have e1 : compL (fun _ => True) (tgName 2) (cYes) (cTup (cCons (cVar 2) (cCons (cC (.bl true)) (cNil)))) (wipeD [some (D.lst (ps.map ptD)), none, none, none, none, none] [2]) (ps.map ptD) M = .ok (ps.map fun p => .tup [ptD p, .bl true]) M := by
    rw [compL_map (F := fun d => .tup [d, .bl true]) trivial]
    · rw [List.map_map]; rfl
    · intro d hd
      exact ⟨_, rfl, by simp [wipeD]⟩
  obtain ⟨rs, er, rsub, rlen⟩ := rows_of ps
  have hz : ps.length ≤ 1000000 := by omega
  have hrl : rs.length ≤ 16 := by omega
  simp only [b__law_hull_, cSeq_at]
  simp [startD_eq, e1, hz, lstOf, pairKeys_pts, er]
  -- the two halves
  refine forL_sat (fun es ρ M' => ∃ k hv J x y z, es = ([.lst (rs.map ptD), .lst (rs.map ptD).reverse] : List D).drop k ∧ k ≤ 2 ∧ hv.length = k ∧ (∀ h ∈ hv, SubD ps 16 h) ∧ M' = M ++ .lst hv :: J ∧ ρ = [some (.lst (ps.map ptD)), some (.lst (rs.map ptD)), x, some (.ref M.length), y, z]) ?_ ?_ ⟨0, [], [], none, none, none, by simp, by omega, rfl, fun h hh => absurd hh (by simp), rfl, rfl⟩
  · rintro ρ M' ⟨k, hv, J, x, y, z, es, hk, hvl, hvs, rfl, rfl⟩
    refine ⟨trivial, ?_⟩
    have hk2 : k = 2 := by
      have := congrArg List.length es
      simp at this
      omega
    subst hk2
    obtain ⟨h0, h1, rfl⟩ : ∃ h0 h1, hv = [h0, h1] := by
      match hv, hvl with
      | [h0, h1], _ => exact ⟨h0, h1, rfl⟩
    obtain ⟨q0, rfl, s0, l0⟩ := hvs h0 (by simp)
    obtain ⟨q1, rfl, s1, l1⟩ := hvs h1 (by simp)
    have f0 : idxD (.ref M.length) (.int 0) (M ++ .lst [.lst (q0.map ptD), .lst (q1.map ptD)] :: J) = .ok (.lst (q0.map ptD)) (M ++ .lst [.lst (q0.map ptD), .lst (q1.map ptD)] :: J) := by
      have a0 : L2.atI ([.lst (q0.map ptD), .lst (q1.map ptD)] : List D) 0 = some (.lst (q0.map ptD)) := G.atI_nat (n := 0) rfl
      simp only [idxD, lstOf, at_mid, a0]
    have f1 : idxD (.ref M.length) (.int 1) (M ++ .lst [.lst (q0.map ptD), .lst (q1.map ptD)] :: J) = .ok (.lst (q1.map ptD)) (M ++ .lst [.lst (q0.map ptD), .lst (q1.map ptD)] :: J) := by
      have a1 : L2.atI ([.lst (q0.map ptD), .lst (q1.map ptD)] : List D) 1 = some (.lst (q1.map ptD)) := G.atI_nat (n := 1) rfl
      simp only [idxD, lstOf, at_mid, a1]
    have hz2 : q0.length + q1.length ≤ 1000000 := by omega
    have hz3 : rs.length ≤ 1000000 := by omega
    simp [f0, f1, lstOf, hz2, qrt]
    refine ⟨fun _ => ?_, fun _ => ?_⟩
    · rw [← List.map_append]
      exact bk fun q hq => by
        rcases List.mem_append.mp hq with h | h
        · exact s0 q h
        · exact s1 q h
    · exact bk fun q hq => rsub q hq
  · rintro e es ρ M' ⟨k, hv, J, x, y, z, ees, hk, hvl, hvs, rfl, rfl⟩
    refine ⟨trivial, _, rfl, ?_⟩
    have hk2 : k < 2 := by
      have := congrArg List.length ees
      simp at this
      omega
    obtain ⟨ts, rfl, tsub, tlen⟩ : SubD ps 16 e := by
      have hmem : e ∈ ([.lst (rs.map ptD), .lst (rs.map ptD).reverse] : List D) := List.mem_of_mem_drop (show e ∈ ([.lst (rs.map ptD), .lst (rs.map ptD).reverse] : List D).drop k by rw [← ees]; exact List.mem_cons_self)
      simp only [List.mem_cons, List.not_mem_nil, or_false] at hmem
      rcases hmem with rfl | rfl
      · exact ⟨rs, rfl, rsub, hrl⟩
      · exact ⟨rs.reverse, by rw [List.map_reverse], fun q hq => rsub q (List.mem_reverse.mp hq), by rw [List.length_reverse]; exact hrl⟩
    have ees2 : es = ([.lst (rs.map ptD), .lst (rs.map ptD).reverse] : List D).drop (k + 1) := by
      have := congrArg List.tail ees
      rw [List.tail_cons, List.tail_drop] at this
      exact this
    generalize hMb : M ++ .lst hv :: J = Mb
    simp
    -- the points of one half
    refine forL_sat (fun us ρ M' => ∃ j hs' x, us = (ts.map ptD).drop j ∧ j ≤ ts.length ∧ hs'.length ≤ j ∧ (∀ q ∈ hs', q ∈ ps) ∧ M' = Mb ++ [.lst (hs'.map ptD)] ∧ ρ = [some (.lst (ps.map ptD)), some (.lst (rs.map ptD)), x, some (.ref M.length), some (.lst (ts.map ptD)), some (.ref Mb.length)]) ?_ ?_ ⟨0, [], x, by simp, by omega, by simp, fun q hq => absurd hq (by simp), rfl, rfl⟩
    · rintro ρ M' ⟨j, hs', x, eus, hj, hjl, hsub, rfl, rfl⟩
      refine ⟨trivial, ?_⟩
      obtain ⟨cs, ec, csub, clen⟩ := cut_pts hs' none (some (-1))
      have g1 : isLst (.ref M.length) (Mb ++ [.lst (hs'.map ptD)]) = .ok (.ref M.length) (Mb ++ [.lst (hs'.map ptD)]) := by
        have : lstAt (Mb ++ [.lst (hs'.map ptD)]) M.length = some hv := by
          rw [← hMb]
          unfold lstAt
          rw [List.append_assoc, List.cons_append, at_mid]
        simp only [isLst, this]
      have g2 : sliceD (.ref Mb.length) none (some (-1)) (Mb ++ [.lst (hs'.map ptD)]) = .ok (.lst (cs.map ptD)) (Mb ++ [.lst (hs'.map ptD)]) := by
        simp only [sliceD, lstOf, last_at, ec]
      have g3 : appD (.ref M.length) (.lst (cs.map ptD)) (Mb ++ [.lst (hs'.map ptD)]) = .ok .non (M ++ .lst (hv ++ [.lst (cs.map ptD)]) :: (J ++ [.lst (hs'.map ptD)])) := by
        have : lstAt (Mb ++ [.lst (hs'.map ptD)]) M.length = some hv := by
          rw [← hMb]
          unfold lstAt
          rw [List.append_assoc, List.cons_append, at_mid]
        simp only [appD, this]
        rw [if_pos (by omega), ← hMb, List.append_assoc, List.cons_append, set_mid]
      simp [g1, g2, g3]
      refine ⟨k + 1, ees2, by omega, by omega, fun h hh => ?_⟩
      rcases hh with hh | rfl
      · exact hvs h hh
      · exact ⟨cs, rfl, fun q hq => hsub q (csub q hq), by omega⟩
    · rintro u us ρ M' ⟨j, hs', x, eus, hj, hjl, hsub, rfl, rfl⟩
      refine ⟨trivial, _, rfl, ?_⟩
      have hjn : j < ts.length := by
        have := congrArg List.length eus
        simp at this
        omega
      have hu : (ts.map ptD)[j]? = some u := by
        have := congrArg (·[0]?) eus
        simp only [List.getElem?_cons_zero, List.getElem?_drop, Nat.add_zero] at this
        exact this.symm
      have eus2 : us = (ts.map ptD).drop (j + 1) := by
        have := congrArg List.tail eus
        rw [List.tail_cons, List.tail_drop] at this
        exact this
      obtain ⟨p, hp, rfl⟩ : ∃ p, p ∈ ps ∧ u = ptD p := by
        rw [pts_at hjn] at hu
        cases hu
        refine ⟨gp ts j, tsub _ ?_, rfl⟩
        unfold gp
        rw [List.getD_eq_getElem?_getD, List.getElem?_eq_getElem hjn]
        exact List.getElem_mem hjn
      simp
      refine while_sat (fun ρ M' => ∃ hs', ρ = [some (.lst (ps.map ptD)), some (.lst (rs.map ptD)), some (ptD p), some (.ref M.length), some (.lst (ts.map ptD)), some (.ref Mb.length)] ∧ M' = Mb ++ [.lst (hs'.map ptD)] ∧ (∀ q ∈ hs', q ∈ ps) ∧ hs'.length ≤ j) (fun _ M' => match M'[Mb.length]? with | some (.lst ds) => ds.length | _ => 0) ?_ ⟨hs', rfl, rfl, hsub, hjl⟩
      rintro ρ M' ⟨hs', rfl, rfl, hsub, hjl⟩
      have g5 : appD (.ref Mb.length) (ptD p) (Mb ++ [.lst (hs'.map ptD)]) = .ok .non (Mb ++ [.lst ((hs' ++ [p]).map ptD)]) := by
        rw [app_last (by rw [List.length_map]; omega), List.map_append]
        rfl
      have nxt : ∃ j', us = (ts.map ptD).drop j' ∧ j' ≤ ts.length ∧ (hs' ++ [p]).length ≤ j' := ⟨j + 1, eus2, by omega, by simp; omega⟩
      have hsub' : ∀ q ∈ hs' ++ [p], q ∈ ps := fun q hq => by
        rcases List.mem_append.mp hq with h | h
        · exact hsub q h
        · rw [List.mem_singleton.mp h]; exact hp
      by_cases h2 : 2 ≤ hs'.length
      · obtain ⟨h0, a, b, rfl⟩ : ∃ h0 a b, hs' = h0 ++ [a, b] := by
          refine ⟨hs'.take (hs'.length - 2), hs'[hs'.length - 2], hs'[hs'.length - 1], ?_⟩
          conv => lhs; rw [← List.take_append_drop (hs'.length - 2) hs']
          congr 1
          rw [List.drop_eq_getElem_cons (by omega), show hs'.length - 2 + 1 = hs'.length - 1 by omega, List.drop_eq_getElem_cons (by omega), show hs'.length - 1 + 1 = hs'.length by omega, List.drop_length]
        have ha := hsub a (by simp)
        have hb := hsub b (by simp)
        have i1 : idxD (.ref Mb.length) (.int (-1)) (Mb ++ [.lst ((h0 ++ [a, b]).map ptD)]) = .ok (ptD b) (Mb ++ [.lst ((h0 ++ [a, b]).map ptD)]) := idx_last (by
          have e : (h0 ++ [a, b]).map ptD = (h0.map ptD ++ [ptD a]) ++ [ptD b] := by simp
          rw [e]; exact atI_m1)
        have i2 : idxD (.ref Mb.length) (.int (-2)) (Mb ++ [.lst ((h0 ++ [a, b]).map ptD)]) = .ok (ptD a) (Mb ++ [.lst ((h0 ++ [a, b]).map ptD)]) := idx_last (by
          have e : (h0 ++ [a, b]).map ptD = h0.map ptD ++ [ptD a, ptD b] := by simp
          rw [e]; exact atI_m2)
        have i3 := bend_law (c := p) (hs a ha).bo (hs b hb).bo (Mb ++ [.lst ((h0 ++ [a, b]).map ptD)])
        have i4 : popD (.ref Mb.length) (Mb ++ [.lst ((h0 ++ [a, b]).map ptD)]) = .ok (ptD b) (Mb ++ [.lst ((h0 ++ [a]).map ptD)]) := by
          have e : (h0 ++ [a, b]).map ptD = (h0 ++ [a]).map ptD ++ [ptD b] := by simp
          rw [e]; exact pop_last
        have i5 := isLst_last (M := Mb) (ds := (h0 ++ [a, b]).map ptD)
        have i6 := len_last (M := Mb) (ds := (h0 ++ [a, b]).map ptD)
        generalize hds : (h0 ++ [a, b]).map ptD = ds at *
        have hdl : ds.length = h0.length + 2 := by rw [← hds]; simp
        have h1l : (1 : Int) < ds.length := by omega
        simp only [cAnd_at, cT_at, c2_at, cCall_at, cCons_at, cNil_at, cVar_at, cC_at, List.getElem?_cons_succ, List.getElem?_cons_zero, Res.bind_ok, i6, cmpD_int, asBl_bl, h1l, decide_true, if_true, c1_at, negD_int, i2, i1, i3, sat_ok]
        by_cases hle : dt (sb b a) (sb p a) ≤ 0
        · simp only [hle, decide_true, if_true]
          have i7 : (Mb ++ [O.lst ((h0 ++ [a]).map ptD)])[Mb.length]? = some (.lst ((h0 ++ [a]).map ptD)) := last_at
          have i8 : (Mb ++ [O.lst ds])[Mb.length]? = some (.lst ds) := last_at
          simp only [cSeq_at, cDo_at, cM0_at, cVar_at, List.getElem?_cons_succ, List.getElem?_cons_zero, Res.bind_ok, i5, i4, flow_ok, then_nx, cEnd_at, satF_nx, i7, i8]
          refine ⟨⟨h0 ++ [a], by first | rfl | trivial, rfl, fun q hq => hsub q ?_, ?_⟩, ?_⟩
          · rcases List.mem_append.mp hq with h | h
            · simp [h]
            · simp at h; simp [h]
          · have := hjl
            simp at this ⊢
            omega
          · rw [hdl, List.length_map]
            simp
        · simp only [hle, decide_false, Bool.false_eq_true, if_false]
          simp only [cSeq_at, cDo_at, cM1_at, cVar_at, List.getElem?_cons_succ, List.getElem?_cons_zero, Res.bind_ok, i5, g5, flow_ok, then_nx, cEnd_at, satF_nx, sat_ok]
          obtain ⟨j', a1, a2, a3⟩ := nxt
          exact ⟨j', a1, a2, h0 ++ [a, b] ++ [p], a3, fun x y h => hsub' _ h, rfl, _, rfl⟩
      · have i6 := len_last (M := Mb) (ds := hs'.map ptD)
        have h1l : ¬ (1 : Int) < (hs'.map ptD).length := by rw [List.length_map]; omega
        have i5 := isLst_last (M := Mb) (ds := hs'.map ptD)
        simp only [cAnd_at, cT_at, c2_at, cCall_at, cCons_at, cNil_at, cVar_at, cC_at, List.getElem?_cons_succ, List.getElem?_cons_zero, Res.bind_ok, i6, cmpD_int, asBl_bl, h1l, decide_false, Bool.false_eq_true, if_false, sat_ok]
        simp only [cSeq_at, cDo_at, cM1_at, cVar_at, List.getElem?_cons_succ, List.getElem?_cons_zero, Res.bind_ok, i5, g5, flow_ok, then_nx, cEnd_at, satF_nx, sat_ok]
        obtain ⟨j', a1, a2, a3⟩ := nxt
        exact ⟨j', a1, a2, hs' ++ [p], a3, fun x y h => hsub' _ h, rfl, _, rfl⟩
end K92
set_option maxHeartbeats 4000000
namespace K92
open PySem PySem.Spec PyProof.Rows L2 G PM
theorem abs_step {a k c : Int} {B : Nat} (ha : a.natAbs ≤ B) (hk : k.natAbs ≤ 2) (hc : c.natAbs ≤ B) : (a + k * c).natAbs ≤ 3 * B := by
  have h1 := Int.natAbs_add_le a (k * c)
  rw [Int.natAbs_mul] at h1
  have h2 : k.natAbs * c.natAbs ≤ 2 * B := Nat.mul_le_mul hk hc
  omega
theorem mulk {k c : Int} (hk : k.natAbs ≤ 2) {M : Mem} : mulD (.int k) (.int c) M = .ok (.int (k * c)) M := mulD_int (.inl ⟨by omega, by omega⟩)
theorem mul2 {c : Int} {M : Mem} : mulD (.int 2) (.int c) M = .ok (.int (2 * c)) M := mulD_int (.inl ⟨by decide, by decide⟩)
theorem fine_ints (b : Bool) {is : List Int} (hl : is.length ≤ 16) (h : ∀ i ∈ is, i.natAbs < 10 ^ 40) : fineN b 1 (.tup (is.map D.int)) = true := by
  simp only [fineN, List.length_map, Bool.and_eq_true, decide_eq_true_eq]
  refine ⟨hl, List.all_eq_true.mpr fun d hd => ?_⟩
  obtain ⟨i, hi, rfl⟩ := List.mem_map.mp hd
  simp only [decide_eq_true_eq]
  exact h i hi
theorem frame_ok {X M : Mem} (hX : WX X) (h : Dk X M) {size far : Int} (s1 : 1 ≤ size) (s2 : size ≤ 2) (f1 : 0 ≤ far) (f2 : far ≤ 400000) : Sat (m__law_frame [.ref 1, .int size, .int far] M) fun d M' => Dk X M' ∧ ∀ b, fineN b 1 d = true := by
  refine runF_sat rfl ?_
  generalize hq : (⟨fun _ M' => Back M.length (fun d M' => Dk X M' ∧ ∀ b, fineN b 1 d = true) .non M', Back M.length (fun d M' => Dk X M' ∧ ∀ b, fineN b 1 d = true), fun _ _ => False, fun _ _ => False⟩ : Fl) = q
  have qrt : ∀ {is : List Int} {M' : Mem}, Dk X M' → is.length ≤ 16 → (∀ i ∈ is, i.natAbs < 10 ^ 40) → q.rt (.tup (is.map D.int)) M' := fun h' hl hi => by
    rw [← hq]
    show Back M.length (fun d M' => Dk X M' ∧ ∀ b, fineN b 1 d = true) _ _
    exact back_same (h'.len.trans h.len.symm) (by have := h'.wf hX; rwa [h'.len.trans h.len.symm] at this) (fine_dry true 1 (fine_ints true hl hi)) ⟨h', fun b => fine_ints b hl hi⟩
  simp [startD_eq, b__law_frame_]
  refine (next_ok hX h (many := 4) (by decide) (by decide)).imp ?_
  rintro d M1 ⟨h1, r, rfl, r0, r1⟩
  simp [rng1_int (j := r) ⟨by omega, by omega⟩]
  refine forL_sat (fun es ρ M' => ∃ a b c e x y, ρ = [some (.ref 1), some (.int size), some (.int far), some (.int a), some (.int b), some (.int c), some (.int e), x, y] ∧ Dk X M' ∧ es.length ≤ 3 ∧ a.natAbs ≤ 3 ^ (3 - es.length) ∧ b.natAbs ≤ 3 ^ (3 - es.length) ∧ c.natAbs ≤ 3 ^ (3 - es.length) ∧ e.natAbs ≤ 3 ^ (3 - es.length)) ?_ ?_ ?_
  · rintro ρ M2 ⟨a, b, c, e, x, y, rfl, h2, _, ha, hb, hc, he⟩
    simp only [List.length_nil, Nat.sub_zero, Nat.reducePow] at ha hb hc he
    refine ⟨trivial, ?_⟩
    simp [mul2]
    refine (next_ok hX h2 (many := 2) (by decide) (by decide)).imp ?_
    rintro d M3 ⟨h3, r, rfl, _, _⟩
    simp
    refine ⟨fun _ => ?_, fun _ => ?_⟩ <;>
    · refine (next_ok hX h3 (many := 2 * far + 1) (by omega) (by omega)).imp ?_
      rintro d M4 ⟨h4, r4, rfl, _, _⟩
      simp
      refine (next_ok hX h4 (many := 2 * far + 1) (by omega) (by omega)).imp ?_
      rintro d M5 ⟨h5, r5, rfl, _, _⟩
      simp
      first
      | exact qrt (is := [c, e, a, b, r4 - far, r5 - far]) h5 (by simp) (fun i hi => by
          simp only [List.mem_cons, List.not_mem_nil, or_false] at hi
          rcases hi with rfl | rfl | rfl | rfl | rfl | rfl <;> omega)
      | exact qrt (is := [a, b, c, e, r4 - far, r5 - far]) h5 (by simp) (fun i hi => by
          simp only [List.mem_cons, List.not_mem_nil, or_false] at hi
          rcases hi with rfl | rfl | rfl | rfl | rfl | rfl <;> omega)
  · rintro z es ρ M2 ⟨a, b, c, e, x, y, rfl, h2, hl, ha, hb, hc, he⟩
    refine ⟨trivial, _, rfl, ?_⟩
    rw [List.length_cons] at hl ha hb hc he
    simp [mul2]
    refine (next_ok hX h2 (many := 2 * size + 1) (by omega) (by omega)).imp ?_
    rintro d M3 ⟨h3, r3, rfl, _, _⟩
    simp
    refine (next_ok hX h3 (many := 2) (by decide) (by decide)).imp ?_
    rintro d M4 ⟨h4, r4, rfl, _, _⟩
    have hk : (r3 - size).natAbs ≤ 2 := by omega
    have e3 : 3 - es.length = (3 - (es.length + 1)) + 1 := by omega
    have hp : 3 ^ (3 - es.length) = 3 * 3 ^ (3 - (es.length + 1)) := by rw [e3, Nat.pow_succ, Nat.mul_comm]
    simp [mulk hk]
    rw [hp]
    have up : ∀ {n : Nat}, n ≤ 3 ^ (3 - (es.length + 1)) → n ≤ 3 * 3 ^ (3 - (es.length + 1)) := fun h => by omega
    exact ⟨fun _ => ⟨_, _, _, _, ⟨rfl, rfl, rfl, rfl⟩, h4, by omega, abs_step ha hk hc, abs_step hb hk he, up hc, up he⟩, fun _ => ⟨_, _, _, _, ⟨rfl, rfl, rfl, rfl⟩, h4, by omega, up ha, up hb, abs_step hc hk ha, abs_step he hk hb⟩⟩
  · refine ⟨1, 0, 0, 1, none, none, rfl, h1, ?_, ?_, ?_, ?_, ?_⟩
    · unfold rangeL; rw [List.length_map, List.length_range]; omega
    all_goals exact Nat.le_trans (by decide) (Nat.one_le_pow _ _ (by decide))
end K92
set_option maxHeartbeats 4000000
namespace K92
open PySem PySem.Spec PyProof.Rows L2 G PM
theorem ints_dry (is : List Int) : D.ltL 0 (is.map D.int) = true := ltL_ints is
theorem pick_int {X M : Mem} (hX : WX X) (h : Dk X M) (is : List Int) (hne : is ≠ []) (hlen : is.length ≤ 1000) : Sat (m__law_pick [.ref 1, .lst (is.map D.int)] M) fun d M' => Dk X M' ∧ ∃ i, i ∈ is ∧ d = .int i := by
  refine (pick_ok hX h (by simpa using hne) (by simpa using hlen) (ints_dry is)).imp ?_
  rintro d M' ⟨h', hd⟩
  obtain ⟨i, hi, rfl⟩ := List.mem_map.mp hd
  exact ⟨h', i, hi, rfl⟩
theorem pick_pt {X M : Mem} (hX : WX X) (h : Dk X M) (ps : List Pt) (hne : ps ≠ []) (hlen : ps.length ≤ 1000) : Sat (m__law_pick [.ref 1, .lst (ps.map ptD)] M) fun d M' => Dk X M' ∧ ∃ p, p ∈ ps ∧ d = ptD p := by
  refine (pick_ok hX h (by simpa using hne) (by simpa using hlen) pts_dry).imp ?_
  rintro d M' ⟨h', hd⟩
  obtain ⟨i, hi, rfl⟩ := List.mem_map.mp hd
  exact ⟨h', i, hi, rfl⟩
theorem fine_pts (b : Bool) {ps : List Pt} (hl : ps.length ≤ 16) (h : ∀ p ∈ ps, p.1.natAbs < 10 ^ 40 ∧ p.2.natAbs < 10 ^ 40) : fineN b 2 (.tup (ps.map ptD)) = true := by
  simp only [fineN, List.length_map, Bool.and_eq_true, decide_eq_true_eq]
  refine ⟨hl, List.all_eq_true.mpr fun d hd => ?_⟩
  obtain ⟨p, hp, rfl⟩ := List.mem_map.mp hd
  exact fine_ints b (is := [p.1, p.2]) (by simp) fun i hi => by
    simp only [List.mem_cons, List.not_mem_nil, or_false] at hi
    rcases hi with rfl | rfl
    · exact (h p hp).1
    · exact (h p hp).2
def mvF (p : Pt) : D → D
  | .tup [.int a, .int b] => ptD (p.1 + a, p.2 + b)
  | _ => .non
theorem polygon_ok {X M : Mem} (hX : WX X) (h : Dk X M) : Sat (m__law_polygon [.ref 1] M) fun d M' => Dk X M' ∧ ∀ b, fineN b 2 d = true := by
  refine runF_sat rfl ?_
  generalize hq : (⟨fun _ M' => Back M.length (fun d M' => Dk X M' ∧ ∀ b, fineN b 2 d = true) .non M', Back M.length (fun d M' => Dk X M' ∧ ∀ b, fineN b 2 d = true), fun _ _ => False, fun _ _ => False⟩ : Fl) = q
  have qrt : ∀ {ps : List Pt} {M' : Mem}, Dk X M' → ps.length ≤ 16 → (∀ p ∈ ps, p.1.natAbs < 10 ^ 40 ∧ p.2.natAbs < 10 ^ 40) → q.rt (.tup (ps.map ptD)) M' := fun h' hl hi => by
    rw [← hq]
    show Back M.length (fun d M' => Dk X M' ∧ ∀ b, fineN b 2 d = true) _ _
    exact back_same (h'.len.trans h.len.symm) (by have := h'.wf hX; rwa [h'.len.trans h.len.symm] at this) (fine_dry true 2 (fine_pts true hl hi)) ⟨h', fun b => fine_pts b hl hi⟩
  simp [startD_eq, b__law_polygon_, rng1_int (j := 6) (by decide)]
  refine forL_sat (fun es ρ M' => ∃ x1 x2 x3 x4 x5 x6 x7 x8 x9, ρ = [some (.ref 1), x1, x2, x3, x4, x5, x6, x7, x8, x9] ∧ Dk X M') ?_ ?_ ?_
  · rintro ρ M2 ⟨x1, x2, x3, x4, x5, x6, x7, x8, x9, rfl, h2⟩
    refine ⟨trivial, ?_⟩
    try simp
    refine (next_ok hX h2 (many := 5) (by decide) (by decide)).imp ?_
    rintro d M3 ⟨h3, r, rfl, _, _⟩
    try simp
    exact qrt (ps := [(0, 0), (1 + r, 0), (0, 1)]) h3 (by simp) (fun p hp => by
      simp only [List.mem_cons, List.not_mem_nil, or_false] at hp
      rcases hp with rfl | rfl | rfl <;> constructor <;> simp <;> omega)
  · rintro z es ρ M2 ⟨x1, x2, x3, x4, x5, x6, x7, x8, x9, rfl, h2⟩
    refine ⟨trivial, _, rfl, ?_⟩
    try simp
    refine (pick_int hX h2 [1, 2, 3, 3, 5, 9] (by simp) (by simp)).imp ?_
    rintro d M3 ⟨h3, side, hside, rfl⟩
    have hs : 1 ≤ side ∧ side ≤ 9 := by simp at hside; omega
    try simp
    refine (pick_int hX h3 [3, 3, 4, 5, 9, 16] (by simp) (by simp)).imp ?_
    rintro d M4 ⟨h4, many, hmany, rfl⟩
    have hm : 3 ≤ many ∧ many ≤ 16 := by simp at hmany; omega
    have hz : (rangeL 0 many).length ≤ 1000000 := by unfold rangeL; rw [List.length_map, List.length_range]; omega
    simp [rng1_int (j := many) ⟨by omega, by omega⟩, hz]
    refine (compL_sat (fun es acc M' => ∃ qs : List Pt, acc = qs.map ptD ∧ (∀ q ∈ qs, Sm q) ∧ Dk X M' ∧ qs.length + es.length ≤ 16) (fun _ _ _ _ => trivial) ?_ (acc := []) ?_).imp ?_
    · rintro w ws acc M5 ⟨qs, rfl, hqs, h5, hl5⟩
      refine ⟨_, rfl, ?_⟩
      simp [wipeD]
      refine (next_ok hX h5 (many := side + 1) (by omega) (by omega)).imp ?_
      rintro d M6 ⟨h6, r6, rfl, _, _⟩
      try simp
      refine (next_ok hX h6 (many := side + 1) (by omega) (by omega)).imp ?_
      rintro d M7 ⟨h7, r7, rfl, _, _⟩
      try simp
      refine ⟨qs ++ [(r6, r7)], by rw [List.map_append]; rfl, fun x y hxy => ?_, h7, by simp at hl5 ⊢; omega⟩
      rcases List.mem_append.mp hxy with hxy | hxy
      · exact hqs _ hxy
      · rw [List.mem_singleton.mp hxy]
        unfold Sm
        simp only
        omega
    · exact ⟨[], rfl, fun q hq => absurd hq (by simp), h4, by unfold rangeL; rw [List.length_map, List.length_range]; simp; omega⟩
    · rintro ys M5 ⟨qs, eys, hqs, h5, hl5⟩
      simp only [List.nil_append] at eys
      subst eys
      try simp
      refine (hull_ok hqs (by simpa using hl5) (h5.wf hX)).imp ?_
      rintro d M6 ⟨rfl, ts, rfl, hts⟩
      try simp
      by_cases h3' : 2 < (ts.length : Int)
      · by_cases h13 : (ts.length : Int) < 13
        · simp [h3', h13]
          refine ⟨⟨?_, fun _ => h5⟩, fun _ => h5⟩
          refine (pick_pt hX h5 [(0, 0), (0, 0), (-1, -1), (-3, 2), (999000, -999000)] (by simp) (by simp)).imp ?_
          rintro d M7 ⟨h7, p, hp, rfl⟩
          have hp' : -1000000 ≤ p.1 ∧ p.1 ≤ 1000000 ∧ -1000000 ≤ p.2 ∧ p.2 ≤ 1000000 := by
            simp only [List.mem_cons, List.not_mem_nil, or_false] at hp
            rcases hp with rfl | rfl | rfl | rfl | rfl <;> decide
          have hz2 : ts.length ≤ 1000000 := by omega
          have em : compL (fun _ => True) (tgSeq (tgCons (tgName 8) (tgCons (tgName 9) tgNil))) cYes (cTup (cCons (c2 addD (cVar 6) (cVar 8)) (cCons (c2 addD (cVar 7) (cVar 9)) cNil))) (wipeD [some (.ref 1), some z, some (.int side), some (.int many), some (.tup (ts.map ptD)), x5, some (.int p.1), some (.int p.2), x8, x9] [8, 9]) (ts.map ptD) M7 = .ok ((ts.map ptD).map (mvF p)) M7 := by
            refine compL_map trivial fun d hd => ?_
            obtain ⟨t, _, rfl⟩ := List.mem_map.mp hd
            exact ⟨_, rfl, by simp [wipeD]; rfl⟩
          have et : ∀ ρ : G.Env, tgSeq (tgCons (tgName 6) (tgCons (tgName 7) tgNil)) (ptD p) ρ = some ((ρ.set 6 (some (.int p.1))).set 7 (some (.int p.2))) := fun _ => rfl
          have ef : (ts.map ptD).map (mvF p) = (ts.map fun t => ((p.1 + t.1, p.2 + t.2) : Pt)).map ptD := by
            rw [List.map_map, List.map_map]
            rfl
          rw [ef] at em
          have hfin := qrt (ps := ts.map fun t => ((p.1 + t.1, p.2 + t.2) : Pt)) h7 (by rw [List.length_map]; omega) (fun u hu => by
            obtain ⟨t, ht, rfl⟩ := List.mem_map.mp hu
            have hst := hqs t (hts t ht)
            unfold Sm at hst
            simp only
            constructor <;> omega)
          simp only [et, satF_nx, List.set_cons_succ, List.set_cons_zero, List.getElem?_cons_succ, List.getElem?_cons_zero, sat_ok, src_tup, liftS_some, List.length_map, hz2, em]
          simp only [hfin, implies_true, and_self]
        · simp [h3', h13]
          exact ⟨fun _ => h5, fun _ => h5⟩
      · simp [h3']
        exact fun _ => h5
  · exact ⟨none, none, none, none, none, none, none, none, none, rfl, h⟩
end K92
set_option maxHeartbeats 4000000
namespace K92
open PySem PySem.Spec PyProof.Rows L2 G PM
abbrev kTent : Str := PySem.Str.ofString "tent"
abbrev kCoin : Str := PySem.Str.ofString "coin"
def tentD : D := .tup ([(0, 0), (2, 0), (0, 2)].map ptD)
def coinD : D := .tup ([(-1, 0), (0, -1), (1, 0), (0, 1)].map ptD)
def shK : List (Key × D) := [(.inr kTent, tentD), (.inr kCoin, coinD)]
def SX : Mem := [.dic shK]
theorem wx_SX : WX SX := by
  simp [WX, SX, shK, O.lt, tentD, coinD, ptD, D.lt, D.ltL]
theorem sh_at {M : Mem} (h : Dk SX M) : dicAt M 2 = some shK := by
  obtain ⟨gs, a, t, rfl, _⟩ := h
  rfl
def NmOk (s : Str) : Prop := ∀ b, fineN b 0 (.str s) = true
theorem strs_dry (ss : List Str) : D.ltL 0 (ss.map D.str) = true := dryL_mem.mpr fun d hd => by
  obtain ⟨s, _, rfl⟩ := List.mem_map.mp hd
  rfl
theorem pick_str {X M : Mem} (hX : WX X) (h : Dk X M) (ss : List Str) (hne : ss ≠ []) (hlen : ss.length ≤ 1000) : Sat (m__law_pick [.ref 1, .lst (ss.map D.str)] M) fun d M' => Dk X M' ∧ ∃ s, s ∈ ss ∧ d = .str s := by
  refine (pick_ok hX h (by simpa using hne) (by simpa using hlen) (strs_dry ss)).imp ?_
  rintro d M' ⟨h', hd⟩
  obtain ⟨i, hi, rfl⟩ := List.mem_map.mp hd
  exact ⟨h', i, hi, rfl⟩
theorem nm_all {ss : List Str} (h : (ss.all fun s => fineN true 0 (.str s)) = true) {s : Str} (hs : s ∈ ss) : NmOk s := fun _ => List.all_eq_true.mp h s hs
theorem sort_sh {s : Str} (h : s ∈ sortS [kTent, kCoin]) : NmOk s := by
  have h2 : s ∈ [kTent, kCoin] := List.mem_mergeSort.mp h
  exact nm_all (ss := [kTent, kCoin]) (by decide +kernel) h2
abbrev nmL : List Str := ["a", "b", "tent", "coin", "sail", "lamp", "x", "abcdefgh", "zebra", "q"].map PySem.Str.ofString
theorem names_ok {M : Mem} (h : Dk SX M) {sh : D} (hsh : sh = .ref 2 ∨ sh = .dic [] []) : Sat (m__law_names [.ref 1, sh] M) fun d M' => Dk SX M' ∧ ∃ s, d = .str s ∧ NmOk s := by
  refine runF_sat rfl ?_
  generalize hq : (⟨fun _ M' => Back M.length (fun d M' => Dk SX M' ∧ ∃ s, d = .str s ∧ NmOk s) .non M', Back M.length (fun d M' => Dk SX M' ∧ ∃ s, d = .str s ∧ NmOk s), fun _ _ => False, fun _ _ => False⟩ : Fl) = q
  have qrt : ∀ {s : Str} {M' : Mem}, Dk SX M' → NmOk s → q.rt (.str s) M' := fun h' hs => by
    rw [← hq]
    show Back M.length (fun d M' => Dk SX M' ∧ ∃ s, d = .str s ∧ NmOk s) _ _
    exact back_same (h'.len.trans h.len.symm) (by have := h'.wf wx_SX; rwa [h'.len.trans h.len.symm] at this) rfl ⟨h', _, rfl, hs⟩
  have last : ∀ {M' : Mem}, Dk SX M' → Sat (m__law_pick [.ref 1, .lst (nmL.map D.str)] M') q.rt := fun h' => by
    refine (pick_str wx_SX h' nmL (by simp) (by simp)).imp ?_
    rintro d M2 ⟨h2, s, hs, rfl⟩
    exact qrt h2 (nm_all (by decide +kernel) hs)
  simp only [startD_eq, b__law_names_]
  rcases hsh with rfl | rfl
  · have e1 : neE (.ref 2) (.dic [] []) M = .ok (.bl true) M := by
      simp only [neE, G.kvsOf, sh_at h]
      rfl
    simp [e1]
    refine (next_ok wx_SX h (many := 5) (by decide) (by decide)).imp ?_
    rintro d M2 ⟨h2, r, rfl, _, _⟩
    simp
    refine ⟨fun _ => ?_, fun _ => last h2⟩
    have e2 : sortKD [.ref 2] M2 = .ok ((sortS [kTent, kCoin]).map D.str) M2 := by
      simp only [sortKD, sh_at h2]
      rfl
    simp only [e2, sat_ok]
    refine (pick_str wx_SX h2 (sortS [kTent, kCoin]) (fun z => ?_) (by unfold sortS; rw [List.length_mergeSort]; decide)).imp ?_
    · have := congrArg List.length z
      unfold sortS at this
      rw [List.length_mergeSort] at this
      cases this
    · rintro d M3 ⟨h3, s, hs, rfl⟩
      exact qrt h3 (sort_sh hs)
  · have e1 : neE (.dic [] []) (.dic [] []) M = .ok (.bl false) M := rfl
    simp [e1]
    exact last h
theorem look_sh (s : Str) : ∃ (p : Pt) (r : List D), (lookD shK (.inr s)).getD (.tup [ptD (0, 0)]) = .tup (ptD p :: r) ∧ -10 ≤ p.1 ∧ p.1 ≤ 10 ∧ -10 ≤ p.2 ∧ p.2 ≤ 10 := by
  unfold lookD shK
  rw [List.find?_cons]
  by_cases h1 : s = kTent
  · subst h1
    simp only [decide_true, Option.map_some, Option.getD_some]
    exact ⟨(0, 0), _, rfl, by decide, by decide, by decide, by decide⟩
  · have e1 : decide ((Sum.inr kTent : Key) = .inr s) = false := decide_eq_false fun e => h1 (by injection e with e; exact e.symm)
    rw [e1]
    simp only
    rw [List.find?_cons]
    by_cases h2 : s = kCoin
    · subst h2
      simp only [decide_true, Option.map_some, Option.getD_some]
      exact ⟨(-1, 0), _, rfl, by decide, by decide, by decide, by decide⟩
    · have e2 : decide ((Sum.inr kCoin : Key) = .inr s) = false := decide_eq_false fun e => h2 (by injection e with e; exact e.symm)
      rw [e2]
      simp only [List.find?_nil, Option.map_none, Option.getD_none]
      exact ⟨(0, 0), _, rfl, by decide, by decide, by decide, by decide⟩
end K92
set_option maxHeartbeats 8000000
namespace K92
open PySem PySem.Spec PyProof.Rows L2 G PM
@[simp] theorem cDGet2_at {fo fa fb : SemE} {ρ : G.Env} {M : Mem} : cDGet2 fo fa fb ρ M = (fo ρ M).bind fun x M1 => (match x with | .ref n => (match dicAt M1 n with | some _ => Res.ok x M1 | none => .bad) | _ => .bad).bind fun x M2 => (fa ρ M2).bind fun y M3 => (fb ρ M3).bind fun z M4 => dget2D x y z M4 := rfl
/-- edits, as drawn -/
def EdOk (d : D) : Prop := (∀ b, fineN b 3 d = true) ∧ ∃ ds, d = .tup ds ∧ 2 ≤ ds.length ∧ ds.length ≤ 3
theorem fine_up {b : Bool} {n : Nat} {d : D} (h : fineN b n d = true) : fineN b (n + 1) d = true := by
  have up : ∀ (n : Nat) {d : D}, fineN b n d = true → fineN b (n + 1) d = true := by
    intro n
    induction n with
    | zero =>
      intro d h
      cases d with
      | dic ks ds => cases ks <;> cases ds <;> first | exact h | simp [fineN] at h
      | tup ds => simp [fineN] at h
      | lst ds => simp [fineN] at h
      | ref i => simp [fineN] at h
      | _ => exact h
    | succ n ih =>
      intro d h
      cases d with
      | dic ks ds => cases ks <;> cases ds <;> first | exact h | simp [fineN] at h
      | tup ds =>
        simp only [fineN, Bool.and_eq_true, decide_eq_true_eq] at h
        show (decide (ds.length ≤ 16) && ds.all (fineN b (n + 1))) = true
        simp only [Bool.and_eq_true, decide_eq_true_eq]
        exact ⟨h.1, List.all_eq_true.mpr fun d hd => ih (List.all_eq_true.mp h.2 d hd)⟩
      | lst ds =>
        simp only [fineN, Bool.and_eq_true, decide_eq_true_eq] at h
        show (b && (decide (ds.length ≤ 16) && ds.all (fineN b (n + 1)))) = true
        simp only [Bool.and_eq_true, decide_eq_true_eq]
        exact ⟨h.1, h.2.1, List.all_eq_true.mpr fun d hd => ih (List.all_eq_true.mp h.2.2 d hd)⟩
      | ref i => simp [fineN] at h
      | _ => exact h
  exact up n h
theorem fine_tup {b : Bool} {n : Nat} {ds : List D} (hl : ds.length ≤ 16) (h : ∀ d ∈ ds, fineN b n d = true) : fineN b (n + 1) (.tup ds) = true := by
  simp only [fineN, Bool.and_eq_true, decide_eq_true_eq]
  exact ⟨hl, List.all_eq_true.mpr h⟩
theorem ed2 {a b : D} (ha : ∀ b, fineN b 2 a = true) (hb : ∀ c, fineN c 2 b = true) : EdOk (.tup [a, b]) := ⟨fun c => fine_tup (by simp) (fun d hd => by
  simp only [List.mem_cons, List.not_mem_nil, or_false] at hd
  rcases hd with rfl | rfl <;> first | exact ha c | exact hb c), _, rfl, by simp, by simp⟩
theorem ed3 {a b c : D} (ha : ∀ b, fineN b 2 a = true) (hb : ∀ c, fineN c 2 b = true) (hc : ∀ b, fineN b 2 c = true) : EdOk (.tup [a, b, c]) := ⟨fun e => fine_tup (by simp) (fun d hd => by
  simp only [List.mem_cons, List.not_mem_nil, or_false] at hd
  rcases hd with rfl | rfl | rfl <;> first | exact ha e | exact hb e | exact hc e), _, rfl, by simp, by simp⟩
theorem NmOk.two {s : Str} (h : NmOk s) (b : Bool) : fineN b 2 (.str s) = true := fine_up (fine_up (h b))
theorem int2 {i : Int} (h : i.natAbs < 10 ^ 40) (b : Bool) : fineN b 2 (.int i) = true := by simp only [fineN, decide_eq_true_eq]; exact h
abbrev lotL : List Str := ["put", "put", "put", "drop", "call", "move", "move", "more", "more", "less", "less", "sum", "times"].map PySem.Str.ofString
abbrev putL : List Str := ["a", "b", "c", "tent", "coin", "sail", "lamp", "x", "abcdefgh", "zebra", "q"].map PySem.Str.ofString
theorem law_edit_ok {M : Mem} (h : Dk SX M) : Sat (m__law_edit [.ref 1, .ref 2] M) fun d M' => Dk SX M' ∧ EdOk d := by
  refine runF_sat rfl ?_
  generalize hq : (⟨fun _ M' => Back M.length (fun d M' => Dk SX M' ∧ EdOk d) .non M', Back M.length (fun d M' => Dk SX M' ∧ EdOk d), fun _ _ => False, fun _ _ => False⟩ : Fl) = q
  have qrt : ∀ {d : D} {M' : Mem}, Dk SX M' → EdOk d → q.rt d M' := fun h' hs => by
    rw [← hq]
    show Back M.length (fun d M' => Dk SX M' ∧ EdOk d) _ _
    exact back_same (h'.len.trans h.len.symm) (by have := h'.wf wx_SX; rwa [h'.len.trans h.len.symm] at this) (fine_dry true 3 (hs.1 true)) ⟨h', hs⟩
  simp [startD_eq, b__law_edit_]
  refine (pick_str wx_SX h lotL (by simp) (by simp)).imp ?_
  rintro d M1 ⟨h1, w, hw, rfl⟩
  have hww : NmOk w := nm_all (ss := lotL) (by decide +kernel) hw
  try simp
  refine (names_ok h1 (.inl rfl)).imp ?_
  rintro d M2 ⟨h2, nm, rfl, hnm⟩
  try simp
  refine ⟨fun _ => ?_, fun _ => ⟨fun _ => ?_, fun _ => ⟨fun _ => ?_, fun _ => ⟨fun _ => ?_, fun _ => ⟨fun _ => ?_, fun _ => ⟨fun _ => ?_, fun _ => ?_⟩⟩⟩⟩⟩⟩
  · refine (pick_str wx_SX h2 putL (by simp) (by simp)).imp ?_
    rintro d M3 ⟨h3, s, hs, rfl⟩
    refine (polygon_ok wx_SX h3).imp ?_
    rintro d M4 ⟨h4, hd⟩
    exact qrt h4 (ed3 hww.two (NmOk.two (nm_all (ss := putL) (by decide +kernel) hs)) hd)
  · exact qrt h2 (ed2 hww.two hnm.two)
  · refine (next_ok wx_SX h2 (many := 3) (by decide) (by decide)).imp ?_
    rintro d M3 ⟨h3, r, rfl, _, _⟩
    try simp
    refine ⟨fun _ => ?_, fun _ => ?_⟩
    · refine (names_ok h3 (.inr rfl)).imp ?_
      rintro d M4 ⟨h4, s, rfl, hs⟩
      exact qrt h4 (ed3 hww.two hnm.two hs.two)
    · refine (names_ok h3 (.inl rfl)).imp ?_
      rintro d M4 ⟨h4, s, rfl, hs⟩
      exact qrt h4 (ed3 hww.two hnm.two hs.two)
  · refine (pick_int wx_SX h2 [1, 1, 2] (by simp) (by simp)).imp ?_
    rintro d M3 ⟨h3, size, hsize, rfl⟩
    refine (pick_int wx_SX h3 [0, 3, 3, 400000] (by simp) (by simp)).imp ?_
    rintro d M4 ⟨h4, far, hfar, rfl⟩
    refine (frame_ok wx_SX h4 (by simp at hsize; omega) (by simp at hsize; omega) (by simp at hfar; omega) (by simp at hfar; omega)).imp ?_
    rintro d M5 ⟨h5, hd⟩
    exact qrt h5 (ed3 hww.two hnm.two (fun b => fine_up (hd b)))
  · obtain ⟨p, r, ep, p1, p2, p3, p4⟩ := look_sh nm
    have e1 : dget2D (.ref 2) (.str nm) (.tup [.tup [.int 0, .int 0]]) M2 = .ok (.tup (ptD p :: r)) M2 := by
      have e2 : D.tup [.tup [.int 0, .int 0]] = .tup [ptD (0, 0)] := rfl
      simp only [dget2D, keyD_str, sh_at h2, e2, ep]
    have et : ∀ ρ : G.Env, tgSeq (tgCons (tgName 6) (tgCons (tgName 7) tgNil)) (ptD p) ρ = some ((ρ.set 6 (some (.int p.1))).set 7 (some (.int p.2))) := fun _ => rfl
    simp only [sh_at h2, sat_ok, e1, idx_tup0, et, satF_nx]
    simp
    refine (pick_int wx_SX h2 [1, 2, 2, 5] (by simp) (by simp)).imp ?_
    rintro d M3 ⟨h3, far, hfar, rfl⟩
    have hf : 1 ≤ far ∧ far ≤ 5 := by simp at hfar; omega
    simp [mul2]
    refine (next_ok wx_SX h3 (many := 2 * far + 1) (by omega) (by omega)).imp ?_
    rintro d M4 ⟨h4, r4, rfl, _, _⟩
    simp [mul2]
    refine (next_ok wx_SX h4 (many := 2 * far + 1) (by omega) (by omega)).imp ?_
    rintro d M5 ⟨h5, r5, rfl, _, _⟩
    simp
    refine qrt h5 (ed3 hww.two hnm.two (fun b => fine_up (fine_ints b (is := [_, _]) (by simp) fun i hi => ?_)))
    simp only [List.mem_cons, List.not_mem_nil, or_false] at hi
    rcases hi with rfl | rfl <;> omega
  · refine (pick_int wx_SX h2 [0, 0, 1, 1, 2, 2, 3, 4, 11] (by simp) (by simp)).imp ?_
    rintro d M3 ⟨h3, i, hi, rfl⟩
    exact qrt h3 (ed3 hww.two hnm.two (int2 (by simp at hi; omega)))
  · refine ⟨fun _ => ?_, fun _ => ?_⟩
    · refine (names_ok h2 (.inl rfl)).imp ?_
      rintro d M3 ⟨h3, s, rfl, hs⟩
      exact qrt h3 (ed3 hww.two hnm.two hs.two)
    · refine (pick_int wx_SX h2 [1, 1, 2, 2, 3, 100] (by simp) (by simp)).imp ?_
      rintro d M3 ⟨h3, i, hi, rfl⟩
      exact qrt h3 (ed3 hww.two hnm.two (int2 (by simp at hi; omega)))
end K92
set_option maxHeartbeats 16000000
namespace K92
open PySem PySem.Spec PyProof.Rows L2 G PM
@[simp] theorem lstOf_lst {M : Mem} {ds : List D} : lstOf M (.lst ds) = some ds := rfl
theorem pow1030 {M : Mem} : powD (.int 10) (.int 30) M = .ok (.int 1000000000000000000000000000000) M := by
  have h : (0 : Int) ≤ 30 ∧ (30 : Int) ≤ 1000000 ∧ (10 : Int).natAbs < 2 ^ 64 := by decide
  simp only [powD, if_pos h]
  rfl
theorem cut_mem {ds : List D} {l h : Option Int} : (∀ d ∈ G.cutD ds l h, d ∈ ds) ∧ (G.cutD ds l h).length ≤ ds.length := by
  unfold G.cutD
  refine ⟨fun d hd => List.mem_of_mem_drop (List.mem_of_mem_take hd), ?_⟩
  rw [List.length_take, List.length_drop]
  omega
@[simp] theorem slice_tup {M : Mem} {ds : List D} {l h : Option Int} : sliceD (.tup ds) l h M = .ok (.tup (G.cutD ds l h)) M := rfl
theorem add_tup {M : Mem} {ds es : List D} (h : ds.length + es.length ≤ 1000000) : addD (.tup ds) (.tup es) M = .ok (.tup (ds ++ es)) M := by simp only [addD, if_pos h]
theorem listD_tup {M : Mem} {ds : List D} : listD [.tup ds] M = .ok ds M := rfl
def ok2 (d : D) : Bool := fineN true 2 d || fineN false 2 d
theorem odd_edit_ok {M : Mem} (h : Dk SX M) {e : D} (he : EdOk e) : Sat (m__law_odd_edit [.ref 1, e] M) fun d M' => Dk SX M' ∧ Fine d := by
  obtain ⟨hfe, ds, rfl, hl2, hl3⟩ := he
  have hfd : ∀ b, ∀ d ∈ ds, fineN b 2 d = true := fun b d hd => by
    have := hfe b
    simp only [fineN, Bool.and_eq_true, decide_eq_true_eq] at this
    exact List.all_eq_true.mp this.2 d hd
  refine runF_sat rfl ?_
  generalize hq : (⟨fun _ M' => Back M.length (fun d M' => Dk SX M' ∧ Fine d) .non M', Back M.length (fun d M' => Dk SX M' ∧ Fine d), fun _ _ => False, fun _ _ => False⟩ : Fl) = q
  have qrt : ∀ {d : D} {M' : Mem}, Dk SX M' → Fine d → q.rt d M' := fun h' hs => by
    rw [← hq]
    show Back M.length (fun d M' => Dk SX M' ∧ Fine d) _ _
    exact back_same (h'.len.trans h.len.symm) (by have := h'.wf wx_SX; rwa [h'.len.trans h.len.symm] at this) hs.dry ⟨h', hs⟩
  simp [startD_eq, b__law_odd_edit_]
  refine (next_ok wx_SX h (many := ds.length) (by omega) (by omega)).imp ?_
  rintro d M1 ⟨h1, r, rfl, r0, r1⟩
  simp [pow1030]
  generalize hL : ([D.non, D.bl true, D.bl false, D.str (PySem.Str.ofString ""), D.str (PySem.Str.ofString "none"), D.str (PySem.Str.ofString "Lamp"), D.str (PySem.Str.ofString "ninesigns"), D.str (PySem.Str.ofString "a b"), D.int 0, D.int 1, D.int (-1), D.int 11, D.int 12, D.int 100, D.int 101, D.tup [D.int 0, D.int 0], D.tup [D.int 0, D.bl true],
            D.tup [], D.lst [D.int 0, D.int 0], D.tup [D.int 0, D.int 1000001], D.tup [D.int 1, D.int 0, D.int 0, D.int 1, D.int 0, D.int 0], D.tup [D.int 1, D.int 0, D.int 0, D.int 1, D.int 0], D.tup [D.int 2, D.int 0, D.int 0, D.int 1, D.int 0, D.int 0], D.tup [D.int 1, D.int 0, D.int 0, D.int 1, D.int 0, D.int 1000001],
            D.tup [D.tup [D.int 0, D.int 0], D.tup [D.int 1, D.int 0], D.tup [D.int 0, D.int 1]], D.tup [D.tup [D.int 0, D.int 0], D.tup [D.int 1, D.int 0]], D.tup [D.tup [D.int 0, D.int 0], D.tup [D.int 0, D.int 1], D.tup [D.int 1, D.int 0]], D.lst [D.tup [D.int 0, D.int 0], D.tup [D.int 1, D.int 0], D.tup [D.int 0, D.int 1]],
            D.str (PySem.Str.ofString "put"), D.str (PySem.Str.ofString "sum"), D.str (PySem.Str.ofString "times"), D.str (PySem.Str.ofString "less"), D.str (PySem.Str.ofString "more"), D.str (PySem.Str.ofString "undo"), D.str (PySem.Str.ofString "Put"), D.tup [D.int 1, D.int 0, D.int 0, D.int (-1), D.int 5, D.int (-5)], D.int 1000000000000000000000000000000, D.str (PySem.Str.ofString "1"), D.dic [] []] : List D) = L
  have hLok : L.all ok2 = true := by rw [← hL]; decide +kernel
  have hLne : L ≠ [] := by rw [← hL]; simp
  have hLl : L.length ≤ 1000 := by rw [← hL]; simp
  clear hL
  have ok_dry : ∀ {x : D}, ok2 x = true → x.dry = true := fun h => by
    unfold ok2 at h
    rw [Bool.or_eq_true] at h
    rcases h with h | h
    · exact fine_dry _ _ h
    · exact fine_dry _ _ h
  refine (pick_ok wx_SX h1 hLne hLl (dryL_mem.mpr fun d hd => ok_dry (List.all_eq_true.mp hLok d hd))).imp ?_
  rintro x M2 ⟨h2, hx⟩
  have hxok := List.all_eq_true.mp hLok x hx
  obtain ⟨b, hb⟩ : ∃ b, fineN b 2 x = true := by
    unfold ok2 at hxok
    rw [Bool.or_eq_true] at hxok
    rcases hxok with h | h
    · exact ⟨_, h⟩
    · exact ⟨_, h⟩
  have c1 := cut_mem (ds := ds) (l := none) (h := some r)
  have c2 := cut_mem (ds := ds) (l := some (r + 1)) (h := none)
  have c3 := cut_mem (ds := ds) (l := some (-1)) (h := none)
  have c4 := cut_mem (ds := ds) (l := none) (h := some (-1))
  have hv : Fine (.tup (G.cutD ds none (some r) ++ [x] ++ G.cutD ds (some (r + 1)) none)) := fine_of_fineN (b := b) (n := 3) (by decide) (fine_tup (by simp; omega) fun d hd => by
    rcases List.mem_append.mp hd with hd | hd
    · rcases List.mem_append.mp hd with hd | hd
      · exact hfd b d (c1.1 d hd)
      · rw [List.mem_singleton.mp hd]; exact hb
    · exact hfd b d (c2.1 d hd))
  have hsub : ∀ es : List D, es.length ≤ 16 → (∀ d ∈ es, d ∈ ds) → Fine (.tup es) := fun es hl hes => fine_of_fineN (b := true) (n := 3) (by decide) (fine_tup hl fun d hd => hfd true d (hes d hd))
  obtain ⟨d0, ds', rfl⟩ : ∃ d0 ds', ds = d0 :: ds' := by
    cases ds with
    | nil => simp at hl2
    | cons a b => exact ⟨a, b, rfl⟩
  have a1 : ∀ M, addD (.tup (G.cutD (d0 :: ds') none (some r))) (.tup [x]) M = .ok (.tup (G.cutD (d0 :: ds') none (some r) ++ [x])) M := fun M => add_tup (by simp; omega)
  have a2 : ∀ M, addD (.tup (G.cutD (d0 :: ds') none (some r) ++ [x])) (.tup (G.cutD (d0 :: ds') (some (r + 1)) none)) M = .ok (.tup (G.cutD (d0 :: ds') none (some r) ++ [x] ++ G.cutD (d0 :: ds') (some (r + 1)) none)) M := fun M => add_tup (by simp; omega)
  have a3 : ∀ M, addD (.tup (d0 :: ds')) (.tup (G.cutD (d0 :: ds') (some (-1)) none)) M = .ok (.tup ((d0 :: ds') ++ G.cutD (d0 :: ds') (some (-1)) none)) M := fun M => add_tup (by simp at *; omega)
  generalize hV : G.cutD (d0 :: ds') none (some r) ++ [x] ++ G.cutD (d0 :: ds') (some (r + 1)) none = V at *
  simp only [a1, sat_ok, a2, listD_tup, a3, idx_tup0]
  have hd0 := hfd true d0 (by simp)
  have all : ∀ d ∈ [D.tup V, .tup V, .tup V, .tup V, .lst (d0 :: ds'), .tup (d0 :: ds' ++ G.cutD (d0 :: ds') (some (-1)) none), .tup (G.cutD (d0 :: ds') none (some (-1))), .tup (d0 :: ds').reverse, .tup [], .non, d0, .tup [.tup (d0 :: ds')]], Fine d := fun d hd => by
    simp only [List.mem_cons, List.not_mem_nil, or_false] at hd
    rcases hd with rfl | rfl | rfl | rfl | rfl | rfl | rfl | rfl | rfl | rfl | rfl | rfl
    · exact hv
    · exact hv
    · exact hv
    · exact hv
    · refine fine_of_fineN (b := true) (n := 3) (by decide) ?_
      simp only [fineN, Bool.true_and, Bool.and_eq_true, decide_eq_true_eq]
      exact ⟨by omega, List.all_eq_true.mpr fun d hd => hfd true d hd⟩
    · exact hsub _ (by simp at *; omega) fun d hd => by
        rcases List.mem_append.mp hd with hd | hd
        · exact hd
        · exact c3.1 d hd
    · exact hsub _ (by omega) c4.1
    · exact hsub _ (by rw [List.length_reverse]; omega) fun d hd => List.mem_reverse.mp hd
    · exact ⟨true, rfl⟩
    · exact ⟨true, rfl⟩
    · exact fine_of_fineN (n := 2) (by decide) hd0
    · exact fine_of_fineN (b := true) (n := 4) (by decide) (fine_tup (by simp) fun d hd => by rw [List.mem_singleton.mp hd]; exact hfe true)
  refine (pick_ok wx_SX h2 (by simp) (by simp) (dryL_mem.mpr fun d hd => (all d hd).dry)).imp ?_
  rintro d M3 ⟨h3, hd⟩
  exact qrt h3 (all d hd)
end K92
set_option maxHeartbeats 16000000
namespace K92
open PySem PySem.Spec PyProof.Rows L2 G PM
abbrev abS : Str := PySem.Str.ofString "abcdefgh"
theorem slice_str {M : Mem} {s : Str} {l h : Option Int} (hl : s.length ≤ 1000000) : sliceD (.str s) l h M = .ok (.str (cutS s l h)) M := by simp only [sliceD, if_pos hl]
theorem add_str {M : Mem} {s t : Str} (h : s.length + t.length ≤ 1000000) : addD (.str s) (.str t) M = .ok (.str (s ++ t)) M := by simp only [addD, if_pos h]
theorem str_ok_iff {s : Str} : fineN true 2 (.str s) = true ↔ s.length ≤ 12 ∧ ∀ c ∈ s.cps.toList, c < 0x110000 := by
  simp only [fineN, Bool.and_eq_true, decide_eq_true_eq, PyData.strOk, Array.all_eq_true_iff_forall_mem, Array.mem_toList_iff]
theorem cut_ok {s : Str} {l h : Option Int} (hs : fineN true 2 (.str s) = true) : (cutS s l h).length ≤ s.length ∧ fineN true 2 (.str (cutS s l h)) = true := by
  have h1 : (cutS s l h).length ≤ s.length := by
    unfold cutS PySem.Str.length
    rw [List.size_toArray, List.length_take, List.length_drop, Array.length_toList]
    omega
  refine ⟨h1, str_ok_iff.mpr ⟨by have := (str_ok_iff.mp hs).1; omega, fun c hc => (str_ok_iff.mp hs).2 c ?_⟩⟩
  unfold cutS at hc
  simp only at hc
  exact List.mem_of_mem_drop (List.mem_of_mem_take (by simpa using hc))
theorem app_ok {s t : Str} (hs : fineN true 2 (.str s) = true) (ht : fineN true 2 (.str t) = true) (hl : s.length + t.length ≤ 12) : fineN true 2 (.str (s ++ t)) = true := by
  refine str_ok_iff.mpr ⟨by rw [strLen_append]; exact hl, fun c hc => ?_⟩
  have e : (s ++ t).cps = s.cps ++ t.cps := rfl
  rw [e, Array.toList_append] at hc
  rcases List.mem_append.mp hc with h | h
  · exact (str_ok_iff.mp hs).2 c h
  · exact (str_ok_iff.mp ht).2 c h
theorem fineN_tup {n : Nat} {ds : List D} : fineN true (n + 1) (.tup ds) = (decide (ds.length ≤ 16) && ds.all (fineN true n)) := rfl
theorem fineN_int {n : Nat} {i : Int} : fineN true n (.int i) = decide (i.natAbs < 10 ^ 40) := by cases n <;> rfl
theorem fineN_bl {n : Nat} {b : Bool} : fineN true n (.bl b) = true := by cases n <;> rfl
theorem bounds_ok {M : Mem} (h : Dk SX M) : Sat (m__law_bounds [.ref 1] M) fun d M' => Dk SX M' ∧ ∃ vs, d = .lst vs ∧ ∀ v ∈ vs, Fine v := by
  refine runF_sat rfl ?_
  generalize hq : (⟨fun _ M' => Back M.length (fun d M' => Dk SX M' ∧ ∃ vs, d = .lst vs ∧ ∀ v ∈ vs, Fine v) .non M', Back M.length (fun d M' => Dk SX M' ∧ ∃ vs, d = .lst vs ∧ ∀ v ∈ vs, Fine v), fun _ _ => False, fun _ _ => False⟩ : Fl) = q
  have qrt : ∀ {vs : List D} {M' : Mem}, Dk SX M' → (∀ v ∈ vs, Fine v) → q.rt (.lst vs) M' := fun h' hs => by
    rw [← hq]
    show Back M.length (fun d M' => Dk SX M' ∧ ∃ vs, d = .lst vs ∧ ∀ v ∈ vs, Fine v) _ _
    exact back_same (h'.len.trans h.len.symm) (by have := h'.wf wx_SX; rwa [h'.len.trans h.len.symm] at this) (by rw [dry_lst]; exact dryL_mem.mpr fun d hd => (hs d hd).dry) ⟨h', _, rfl, hs⟩
  simp [startD_eq, b__law_bounds_]
  refine (next_ok wx_SX h (many := 8) (by decide) (by decide)).imp ?_
  rintro d M1 ⟨h1, r, rfl, r0, r1⟩
  have e1 : ∀ M, sliceD (.str abS) none (some (1 + r)) M = .ok (.str (cutS abS none (some (1 + r)))) M := fun M => slice_str (by decide +kernel)
  simp [e1]
  refine (pick_int wx_SX h1 [1000000, 1000001, -1000000, -1000001] (by simp) (by simp)).imp ?_
  rintro d M2 ⟨h2, far, hfar, rfl⟩
  have hf : far.natAbs ≤ 1000001 := by simp at hfar; omega
  generalize hnm : cutS abS none (some (1 + r)) = nm
  have e2 : ∀ M, addD (.str nm) (.str (PySem.Str.ofString "i")) M = .ok (.str (nm ++ PySem.Str.ofString "i")) M := fun M => add_str (by
    have : nm.length ≤ abS.length := by rw [← hnm]; exact (cut_ok (by decide +kernel)).1
    have e8 : abS.length = 8 := by decide +kernel
    have e9 : (PySem.Str.ofString "i").length = 1 := by decide +kernel
    omega)
  simp [e2]
  have n1 : fineN true 2 (.str nm) = true := by rw [← hnm]; exact (cut_ok (by decide +kernel)).2
  have n2 : fineN true 2 (.str (nm ++ PySem.Str.ofString "i")) = true := app_ok n1 (by decide +kernel) (by
    have : nm.length ≤ abS.length := by rw [← hnm]; exact (cut_ok (by decide +kernel)).1
    have e8 : abS.length = 8 := by decide +kernel
    have e9 : (PySem.Str.ofString "i").length = 1 := by decide +kernel
    omega)
  have l1 : fineN true 2 (.str (PySem.Str.ofString "less")) = true := by decide +kernel
  have l2 : fineN true 2 (.str (PySem.Str.ofString "times")) = true := by decide +kernel
  have l3 : fineN true 2 (.str (PySem.Str.ofString "drop")) = true := by decide +kernel
  have l4 : fineN true 2 (.str (PySem.Str.ofString "more")) = true := by decide +kernel
  have l5 : fineN true 2 (.str (PySem.Str.ofString "move")) = true := by decide +kernel
  have l6 : fineN true 2 (.str (PySem.Str.ofString "put")) = true := by decide +kernel
  have l7 : fineN true 2 (.str (PySem.Str.ofString "call")) = true := by decide +kernel
  have l8 : fineN true 2 (.str (PySem.Str.ofString "sum")) = true := by decide +kernel
  have l9 : fineN true 2 (.str (PySem.Str.ofString "none")) = true := by decide +kernel
  have l10 : fineN true 2 (.str (PySem.Str.ofString "")) = true := by decide +kernel
  have l11 : fineN true 2 (.str (PySem.Str.ofString "abcdefghi")) = true := by decide +kernel
  have hf40 : far.natAbs < 10 ^ 40 := Nat.lt_of_le_of_lt hf (by decide)
  refine qrt h2 fun v hv => fine_of_fineN (b := true) (n := 3) (by decide) ?_
  have key : (List.all _ (fineN true 3)) = true → fineN true 3 v = true := fun h => List.all_eq_true.mp h v hv
  refine key ?_
  simp only [List.all_cons, List.all_nil, fineN_tup, fineN_int, fineN_bl, n1, n2, l1, l2, l3, l4, l5, l6, l7, l8, l9, l10, l11, Int.natAbs_neg, decide_eq_true hf40, List.length_cons, List.length_nil]
  simp
end K92
set_option maxHeartbeats 16000000
namespace G
open PySem PySem.Spec PyProof.Rows L2
theorem runF_keep {n N : Nat} {body : SemS} {ds : List D} {M : Mem} {P : D → Mem → Prop} (hl : ds.length = n) (h : SatF (body (startD N ds) M) ⟨fun _ _ => False, fun d M' => (icy M.length M' d).lt M.length = false ∧ P d M', fun _ _ => False, fun _ _ => False⟩) : Sat (runF n N body ds M) P := by
  simp only [runF, if_pos hl]
  cases e : body (startD N ds) M with
  | rt d M' =>
    rw [e] at h
    obtain ⟨h1, h2⟩ := h
    simp only [fin, gc, h1, Bool.false_and, Bool.false_eq_true, if_false]
    exact h2
  | nx ρ M' => rw [e] at h; exact h.elim
  | bk ρ M' => rw [e] at h; exact h.elim
  | ct ρ M' => rw [e] at h; exact h.elim
  | exc c x M' => rw [e] at h; exact h.elim
  | bad => rw [e] at h; exact h.elim
end G
namespace K92
open PySem PySem.Spec PyProof.Rows L2 G PM
theorem cut_ints (ns : List Int) (l h : Option Int) : ∃ ms : List Int, G.cutD (ns.map D.int) l h = ms.map D.int ∧ ms.length ≤ ns.length := by
  unfold G.cutD
  rw [List.length_map]
  refine ⟨(ns.drop (HT.sIx ns.length 0 l)).take (HT.sIx ns.length ns.length h - HT.sIx ns.length 0 l), by rw [List.map_take, List.map_drop], ?_⟩
  rw [List.length_take, List.length_drop]
  omega
theorem pow1015 {M : Mem} : powD (.int 10) (.int 15) M = .ok (.int 1000000000000000) M := by
  have h : (0 : Int) ≤ 15 ∧ (15 : Int) ≤ 1000000 ∧ (10 : Int).natAbs < 2 ^ 64 := by decide
  simp only [powD, if_pos h]
  rfl
theorem merge3 {x y z : D} : mergeD [(.inr kG, x), (.inr kM, y), (.inr kT, z)] = [(.inr kG, x), (.inr kM, y), (.inr kT, z)] := rfl
@[simp] theorem slice_lst {M : Mem} {ds : List D} {l h : Option Int} : sliceD (.lst ds) l h M = .ok (.lst (G.cutD ds l h)) M := rfl
theorem deck_ok {ns : List Int} (hn : ns.length ≤ 63) : Sat (m__law_deck [.lst (ns.map D.int)] []) fun d M' => d = .ref 1 ∧ Dk [] M' := by
  refine runF_keep rfl ?_
  generalize hq : (⟨fun _ _ => False, fun d M' => (icy [].length M' d).lt [].length = false ∧ (d = .ref 1 ∧ Dk [] M'), fun _ _ => False, fun _ _ => False⟩ : Fl) = q
  have qrt : ∀ {gs : List Int} {a : Int}, gs.length ≤ 63 → q.rt (.ref 1) [.lst (gs.map D.int), .dic [(.inr kG, .ref 0), (.inr kM, .int a), (.inr kT, .int 0)]] := fun h => by
    rw [← hq]
    exact ⟨rfl, rfl, ⟨_, _, _, rfl, h⟩⟩
  obtain ⟨ms, em, hm⟩ := cut_ints ns none (some 63)
  have x1 : ∀ {z : Int} {M : Mem}, mulD (.int 19) (.int z) M = .ok (.int (19 * z)) M := fun {z} {M} => mulD_int (.inl (by decide))
  have x2 : ∀ {z : Int} {M : Mem}, mulD (.int z) (.int 69621) M = .ok (.int (z * 69621)) M := fun {z} {M} => mulD_int (.inr (by decide))
  have x3 : ∀ {z : Int} {M : Mem}, modD (.int z) (.int 4294967291) M = .ok (.int (z % 4294967291)) M := fun {z} {M} => modD_int (by decide)
  simp [startD_eq, b__law_deck_, em, x1]
  refine forL_sat (fun es ρ M' => ∃ (gs : List Int) (a : Int) (x y : Option D) (us : List Int), es = us.map D.int ∧ gs.length + us.length ≤ 63 ∧ M' = [.lst (gs.map D.int)] ∧ ρ = [some (.lst (ns.map D.int)), some (.int a), some (.ref 0), x, y]) ?_ ?_ ?_
  · rintro ρ M' ⟨gs, a, x, y, us, eu, hl, rfl, rfl⟩
    refine ⟨trivial, ?_⟩
    simp [merge3]
    exact qrt (by omega)
  · rintro z es ρ M' ⟨gs, a, x, y, us, eu, hl, rfl, rfl⟩
    refine ⟨trivial, _, rfl, ?_⟩
    obtain ⟨u, us', rfl⟩ : ∃ u us', us = u :: us' := by
      cases us with
      | nil => cases eu
      | cons u us' => exact ⟨u, us', rfl⟩
    rw [List.map_cons] at eu
    injection eu with e1 e2
    subst e1
    have i1 : ∀ {gs : List Int}, isLst (.ref 0) [.lst (gs.map D.int)] = .ok (.ref 0) [.lst (gs.map D.int)] := fun {gs} => rfl
    have i2 : ∀ {o : Int}, appD (.ref 0) (.int o) [.lst (gs.map D.int)] = .ok .non [.lst ((gs ++ [o]).map D.int)] := fun {o} => by
      have := app_last (M := []) (ds := gs.map D.int) (y := .int o) (by rw [List.length_map]; omega)
      rw [List.map_append]
      exact this
    rw [List.length_cons] at hl
    have key : ∀ {gs' : List Int} {a' : Int} {x' y' : Option D}, gs'.length ≤ gs.length + 1 → ∃ (g : List Int) (a : Int) (x y : Option D) (us : List Int), es = us.map D.int ∧ g.length + us.length ≤ 63 ∧ [O.lst (gs'.map D.int)] = [.lst (g.map D.int)] ∧ ([some (.lst (ns.map D.int)), some (.int a'), some (.ref 0), x', y'] : G.Env) = [some (.lst (ns.map D.int)), some (.int a), some (.ref 0), x, y] := fun h => ⟨_, _, _, _, us', e2, by omega, rfl, rfl⟩
    simp only [cSeq_at, cAsg_at, c2_at, cC_at, cCall_at, cCons_at, cNil_at, cVar_at, List.set_cons_succ, List.set_cons_zero, List.getElem?_cons_succ, List.getElem?_cons_zero, Res.bind_ok, absD_int, mul2, cmpD_int, intD_bl, addD_int, flow_ok, tgName_at, then_nx, x2, intD_int, x3, cIfS_at, cT_at, asBl_bl, pow1015]
    by_cases hc : 1000000000000000 ≤ 2 * (if u < 0 then -u else u) + (if decide (u < 0) = true then 1 else 0)
    · simp only [hc, decide_true, if_true, cSeq_at, cDo_at, cM1_at, cVar_at, List.getElem?_cons_succ, List.getElem?_cons_zero, Res.bind_ok, i1, i2, flow_ok, then_nx, cEnd_at, satF_nx]
      exact key (by simp)
    · simp only [hc, decide_false, Bool.false_eq_true, if_false, cEnd_at, then_nx, satF_nx]
      exact key (by omega)
  · exact ⟨[], _, none, none, ms, rfl, by simp; omega, rfl, rfl⟩
/-- a judged edit of three items that is one -/
theorem fault_none {w s : String} (hw : (w, ["name", s]) ∈ words) {a b : D} (ha : Fine a) (hb : Fine b) (hn : isName a = true) (hm : okI s b = true) {M : Mem} (hM : M.all (O.lt M.length) = true) : m__law_edit_fault [.tup [.str (PySem.Str.ofString w), a, b]] M = .ok .non M := by
  have hx' : decide (PySem.Str.ofString w ∈ wordS) = true := decide_eq_true (List.mem_map.mpr ⟨_, hw, rfl⟩)
  rcases word_cases hw with ⟨_, e⟩ | ⟨s', e, hs, hnd⟩
  · cases e
  · injection e with _ e
    injection e with e _
    subst e
    have h2 := law_item1 (w := .str (PySem.Str.ofString w)) ha (M := M)
    have h4 := law_item2 hw hb hM
    have r2 := rng2_int (i := 1) (j := 3) (M := M) (by decide)
    refine runF_eq rfl rfl ?_
    simp [startD_eq, b__law_edit_fault_, subTy, in_words, hx', hnd, r2, rl13, forL, h2, hn, h4, hm]
theorem tent_poly : PolyP tentD := by
  refine ⟨[(0, 0), (2, 0), (0, 2)], rfl, by decide, by decide, fun p hp => ?_, fun i hi => ?_, by decide, by decide +kernel⟩
  · simp only [List.mem_cons, List.not_mem_nil, or_false] at hp
    rcases hp with rfl | rfl | rfl <;> exact ⟨by decide, by decide, by decide, by decide⟩
  · match i, hi with
    | 0, _ => decide
    | 1, _ => decide
    | 2, _ => decide
end K92
set_option maxHeartbeats 16000000
namespace K92
open PySem PySem.Spec PyProof.Rows L2 G PM
theorem merge_sh : mergeD [(.inr kTent, tentD), (.inr kCoin, coinD)] = shK := rfl
theorem EdOk.fine {d : D} (h : EdOk d) : Fine d := fine_of_fineN (n := 3) (b := true) (by decide) (h.1 true)
theorem tent_fine : Fine tentD := ⟨true, by decide +kernel⟩
/-- the loop that judges values -/
theorem judge_sat {q : Fl} {vs : List D} {s0 : D} {x3 x4 x5 x6 : Option D} {M : Mem} (h : Dk SX M) (hv : ∀ v ∈ vs, Fine v) (hnx : ∀ y3 y4 y5 y6 M', Dk SX M' → q.nx [some s0, some (.ref 1), some (.ref 2), y3, y4, y5, y6] M') :
    SatF (forL (fun _ => True) (tgName 5) (cSeq (cIfS (cNot (cT (cCall m__law_is_right (cCons (cVar 5) cNil)))) (cSeq (cRet (cC (.bl false))) cEnd) cEnd) cEnd) vs [some s0, some (.ref 1), some (.ref 2), x3, x4, x5, x6] M) q := by
  refine forL_sat (fun es ρ M' => ∃ y3 y4 y5 y6, ρ = [some s0, some (.ref 1), some (.ref 2), y3, y4, y5, y6] ∧ Dk SX M' ∧ ∀ v ∈ es, Fine v) ?_ ?_ ?_
  · rintro ρ M' ⟨y3, y4, y5, y6, rfl, h', _⟩
    exact ⟨trivial, hnx _ _ _ _ _ h'⟩
  · rintro v es ρ M' ⟨y3, y4, y5, y6, rfl, h', hes⟩
    refine ⟨trivial, _, rfl, ?_⟩
    have e := is_right_ok (hes v List.mem_cons_self) (h'.wf wx_SX)
    simp [e]
    exact ⟨h', fun w hw => hes w (List.mem_cons_of_mem _ hw)⟩
  · exact ⟨_, _, _, _, rfl, h, hv⟩
theorem law_ok {ns : List Int} (hn : ns.length ≤ 63) : ∃ M, m_law [.lst (ns.map D.int)] [] = .ok (.bl true) M := by
  suffices h : Sat (m_law [.lst (ns.map D.int)] []) fun d _ => d = .bl true by
    obtain ⟨d, M, e, rfl⟩ := h.eq
    exact ⟨M, e⟩
  refine runF_sat rfl ?_
  generalize hq : (⟨fun _ M' => Back [].length (fun d _ => d = .bl true) .non M', Back [].length (fun d _ => d = .bl true), fun _ _ => False, fun _ _ => False⟩ : Fl) = q
  have qrt : ∀ {M' : Mem}, q.rt (.bl true) M' := fun {M'} => by
    rw [← hq]
    exact ⟨rfl, .inl ⟨rfl, rfl⟩⟩
  simp [startD_eq, b_law_]
  refine (deck_ok hn).imp ?_
  rintro d M1 ⟨rfl, gs, a, t, rfl, hgs⟩
  have hM0 : St gs a t [] ++ [O.dic (mergeD [(Sum.inr (PySem.Str.ofString "tent"), D.tup [D.tup [D.int 0, D.int 0], D.tup [D.int 2, D.int 0], D.tup [D.int 0, D.int 2]]), (Sum.inr (PySem.Str.ofString "coin"), D.tup [D.tup [D.int (-1), D.int 0], D.tup [D.int 0, D.int (-1)], D.tup [D.int 1, D.int 0], D.tup [D.int 0, D.int 1]])])] = St gs a t SX := rfl
  have hlen : List.length (St gs a t []) = 2 := rfl
  rw [hM0, hlen]
  have h0 : Dk SX (St gs a t SX) := ⟨_, _, _, rfl, hgs⟩
  generalize St gs a t SX = M at h0
  simp only [rng1_int (j := 12) (M := M) (by decide), sat_ok]
  refine forL_sat (fun es ρ M' => ∃ y3 y4 y5 y6, ρ = [some (.lst (ns.map D.int)), some (.ref 1), some (.ref 2), y3, y4, y5, y6] ∧ Dk SX M') ?_ ?_ ?_
  · rintro ρ M2 ⟨y3, y4, y5, y6, rfl, h2⟩
    refine ⟨trivial, ?_⟩
    simp only [List.getElem?_cons_succ, List.getElem?_cons_zero, sat_ok]
    refine (bounds_ok h2).imp ?_
    rintro d M3 ⟨h3, vs, rfl, hvs⟩
    simp only [src_lst, liftS_some, sat_ok]
    refine judge_sat h3 hvs fun z3 z4 z5 z6 M4 h4 => ?_
    have e1 : dgetD (.ref 2) (.str (PySem.Str.ofString "tent")) M4 = .ok tentD M4 := by
      simp only [dgetD, keyD_str, sh_at h4]
      rfl
    have ha : Fine (.str (PySem.Str.ofString "a")) := ⟨true, by decide +kernel⟩
    have e2 : m__law_edit_fault [.tup [.str (PySem.Str.ofString "put"), .str (PySem.Str.ofString "a"), tentD]] M4 = .ok .non M4 :=
      fault_none (w := "put") (s := "polygon") (by decide) ha tent_fine (by decide +kernel) (by simp [okI, tent_poly]) (h4.wf wx_SX)
    have hf : Fine (.tup [.str (PySem.Str.ofString "put"), .str (PySem.Str.ofString "a"), tentD]) := ⟨true, by decide +kernel⟩
    have e3 := is_right_ok hf (h4.wf wx_SX)
    simp [e1, e2, e3]
    exact qrt
  · rintro z es ρ M2 ⟨y3, y4, y5, y6, rfl, h2⟩
    refine ⟨trivial, _, rfl, ?_⟩
    simp
    refine (law_edit_ok h2).imp ?_
    rintro e M3 ⟨h3, he⟩
    simp [rng1_int (j := 5) (M := M3) (by decide), show (rangeL 0 5).length ≤ 1000000 by decide]
    refine (compL_sat (fun es acc M' => Dk SX M' ∧ (∀ v ∈ acc, Fine v) ∧ acc.length + es.length ≤ 5) (fun _ _ _ _ => trivial) ?_ (acc := []) ⟨h3, fun v hv => absurd hv (by simp), by decide⟩).imp ?_
    · rintro w ws acc M4 ⟨h4, hacc, hl⟩
      refine ⟨_, rfl, ?_⟩
      simp [wipeD]
      refine (odd_edit_ok h4 he).imp ?_
      rintro o M5 ⟨h5, ho⟩
      refine ⟨h5, fun v hv => ?_, by simp at hl ⊢; omega⟩
      rcases hv with hv | rfl
      · exact hacc v hv
      · exact ho
    · rintro ys M4 ⟨h4, hys, hl⟩
      simp only [List.nil_append] at hys hl
      have hz : 1 + ys.length ≤ 1000000 := by simp at hl; omega
      have hz2 : ys.length + 1 ≤ 1000000 := by omega
      simp [hz, hz2]
      refine judge_sat h4 (fun v hv => ?_) fun z3 z4 z5 z6 M5 h5 => ⟨⟨_, _, _, _, rfl⟩, h5⟩
      rcases List.mem_cons.mp hv with rfl | hv
      · exact he.fine
      · exact hys v hv
  · exact ⟨none, none, none, none, rfl, h0⟩
end K92
theorem PySem.Challenge.cw_gridloops_k92_what_edits_are_holds : PySem.Challenge.rw_gridloops_k92_what_edits_are.Holds := by
  exact K92.head fun ns h => K92.law_ok h
