import PyProof.Rows.All
import Wide.All
import OpenK.AllK
import Wide.FinOn
import HandS.ForMost
import HandS.Evl
import HandS.Walk
import KE.GoesEnum
import KE.LtData
import HandS.Conv
import HandS.Set
import KE.KDictCopyH
import KE.KDictPairs
import HandS.Star
import HandS.Zip
import HandS.TupSets
import HandS.TupAny
import HandS.Deep
import HandS.IsInst
import HandS.Style
import HandS.Defaults
import KE.KEqDeep
import HandS.Codes
import KE.KStateDown
import HandS.Base
import HandS.Call
import HandS.Ends
import HandS.More
import HandS.Words
import HandS.WordsExc
import HandS.Head0
import HandS.Head1
import HandS.Head2
import HandS.HeadEnd
import HandS.HeadHook1
import HandS.HeadHook2
import PySem.Challenge.RW_linklines_k70_whole_bounds
set_option Elab.async false
set_option linter.all false
set_option maxRecDepth 100000
set_option maxHeartbeats 0
/-! rules that the layer lacks: enumerate of a tuple; min of two tuples -/
namespace Lk
open PySem PySem.Spec PyProof.Rows L2
/-! ### enumerate(tuple) -/
theorem meets_enumB1 {v : Value} {o : Obj} {G : Heap → Prop} (B : Begins v o G) :
    Meets (Builtin.«enumerate.__new__» ⟨[.type "enumerate", v], []⟩) (fun _ R s => G s.heap ∧
      R (.ok (.ret (.ref (s.heap.push o).objs.size))) { s with heap := (s.heap.push o).push { cls := .type "enumerate", data := .fields #[.none, .bool false, .ref s.heap.objs.size, rawInt 0, .none, .none] } }) :=
  .of_wp fun prog w A R s h => by
    obtain ⟨hp, g, d, tk, os⟩ := s; obtain ⟨g1, h⟩ := h
    have hsub := sub_enumerate
    have begun : ∀ {A' : Around} {E : Value → Shared → Prop} {Q : Value → Shared → Prop}, Q (.ref hp.objs.size) ⟨hp.push o, g, d, tk, os⟩ → wpAny (model prog w) A' (pyIter v) Q E ⟨hp, g, d, tk, os⟩ :=
      fun q => B.iter prog w _ _ ⟨hp, g, d, tk, os⟩ _ g1 q
    wp_walk using begun
    refine wpAny_stack_any fun st => wpAny_pure ?_
    split
    · rename_i c _ _ _ _ _
      cases (c == Value.type "enumerate")
      · wp_walk using begun
        exact ⟨_, rfl, h⟩
      · wp_walk using begun
        exact ⟨_, rfl, h⟩
    · wp_walk using begun
      exact ⟨_, rfl, h⟩
theorem enum_begins1 {prog : Program} {w : World} {A : Around} {E : Value → Shared → Prop} {s : Shared} {v : Value} {o : Obj} {G : Heap → Prop} {Q : Value → Shared → Prop} (B : Begins v o G) (g1 : G s.heap)
    (h : ∀ h', IsEnum h' (s.heap.objs.size + 1) s.heap.objs.size 0 .none → h'.get? s.heap.objs.size = some o →
      (∀ b o, s.heap.get? b = some o → h'.get? b = some o) → Q (.ref (s.heap.objs.size + 1)) { s with heap := h' }) :
    wpAny (model prog w) A (call (.type "enumerate") [v]) Q E s := by
  refine callType_new F.called_enumerate (by decide) (F.typeCall_enumerate_1 _) (F.newCall_enumerate_1 _) (fun obj => F.args_object_init_2 obj _) F.entry_enumerate_new
    (meets_enumB1 B) ⟨g1, ?_⟩
  have hz : (s.heap.push o).objs.size = s.heap.objs.size + 1 := Heap.size_push ..
  show _ ∧ _
  rw [hz]
  have he : IsEnum ((s.heap.push o).push { cls := .type "enumerate", data := .fields #[.none, .bool false, .ref s.heap.objs.size, rawInt 0, .none, .none] }) (s.heap.objs.size + 1) s.heap.objs.size 0 .none := by
    have q := Heap.get?_push_size (s.heap.push o) (o := { cls := .type "enumerate", data := .fields #[.none, .bool false, .ref s.heap.objs.size, rawInt 0, .none, .none] }) rfl
    rw [hz] at q; exact q
  exact ⟨⟨_, he, rfl⟩, h _ he (Heap.get?_push_of_some _ (Heap.get?_push_size _ B.free)) fun b o x => Heap.get?_push_of_some _ (Heap.get?_push_of_some _ x)⟩
/-- the tuple at a, each item in a new pair with its place -/
def IteT (K : PySem.W.Frag) (a : Addr) : It :=
  ⟨fun i H => ∃ (xs : List V) (x : V), SqT K H a xs ∧ xs[i]? = some x,
   fun i H v H' => ∃ T x, v = .ref T ∧ H T = none ∧ H' = upd H T (.tup [.int (i : Nat), x]) ∧ ∀ xs, SqT K H a xs → xs[i]? = some x,
   fun i H => ∃ xs : List V, SqT K H a xs ∧ xs.length ≤ i⟩
theorem turn_enumT {P : Program} {w : World} {K : PySem.W.Frag} {elts : List Expr} {kk : Nat} {tpos : Pos} (a e it : Addr) :
    Turn P w K (.Tuple elts kk tpos) (IteT K a) [e, it] e (fun i h => (∃ old, IsEnum h e it ((i : Nat) : Int) old) ∧ h.IsTupleIter it a i ∧ e ≠ it ∧ a ≠ it ∧ a ≠ e) where
  mem := by simp
  obj := fun i h st b hb => by
    obtain ⟨⟨old, he⟩, ⟨o, ho, hc, hd⟩, _⟩ := st
    have e' : b = e ∨ b = it := by simpa using hb
    rcases e' with z | z
    · rw [z]; exact ⟨_, he, fun v q => nomatch q⟩
    · rw [z]; exact ⟨o, ho, fun v q => by rw [hd] at q; cases q⟩
  keep := fun i h h' st k => let ⟨⟨old, he⟩, hi, hne⟩ := st; ⟨⟨old, k e (by simp) _ he⟩, hi.at fun o q => k it (by simp) o q, hne⟩
  item := by
    intro X hP hw hK hc i pins s σ H E I hf st hg
    subst hP hw hK
    obtain ⟨⟨old, he⟩, hit, hne, hai, hae⟩ := st
    obtain ⟨xs, x, hq, hx⟩ := hg
    obtain ⟨its, rv, p, hz⟩ := I.tuple hq
    obtain ⟨u, hu, ru⟩ := rv.get hx
    have pT : s.heap.IsTuple a its.toArray := p
    have hel : e < s.heap.objs.size := Heap.lt_size he
    have hil : it < s.heap.objs.size := by obtain ⟨_, q, _⟩ := hit; exact Heap.lt_size q
    have hlt : i < its.toArray.size := by
      rw [List.size_toArray]
      exact (List.getElem?_eq_some_iff.mp hu).1
    have D := Draws.tuple (prog := X.prog) (w := X.w) (A := X.A.in1) (I.ok.hd hc) it a hai its.toArray
    refine wpAny_pyNext_enum_itemD D he ⟨hit, pT⟩ hlt hne (by simp [hne, Ne.symm hae]) fun y h' tk hy ho hs' hT hsz hk => ?_
    have ey : y = u := by
      have q : its[i]? = some y := by simpa using hy
      rw [hu] at q
      exact (Option.some.inj q).symm
    subst ey
    refine ⟨_, rfl, wpAny_letOwnedTupleGo_enum (s := { s with heap := h', toks := tk + 1 }) ho fun h'' he' sb => ?_⟩
    have hT2 : h''.get? s.heap.objs.size = some { cls := .type "tuple", data := .seq #[.int i tk, y] } := (sb.2 _ (Nat.ne_of_gt hel)).trans hT
    have new : ObjOk X.prog X.w (upd H s.heap.objs.size (.tup [.int (i : Nat), x])) h'' s.heap.objs.size (.tup [.int (i : Nat), x]) :=
      ⟨by show 2 ≤ sizeLine; decide, [.int i tk, y], .cons ⟨_, rfl⟩ (.cons ru .nil), ⟨_, hT2, rfl, _, rfl⟩⟩
    have I1 : Inv X pins σ (upd H s.heap.objs.size (.tup [.int (i : Nat), x])) { s with heap := h'', toks := tk + 1 } :=
      I.turnedNew (ch := [e, it]) (fun b ob hb q => (sb.2 b (fun z => hb (by simp [z]))).trans (hk b ob (fun z => hb (by simp [z])) (fun z => hb (by simp [z])) q)) hf (Nat.le_refl _) new
    refine ⟨.ref s.heap.objs.size, _, I1, rfl, ⟨_, x, rfl, I.hok.fresh (Nat.le_refl _), rfl, fun ys hy => by rw [I.tuple_inj hy hq]; exact hx⟩, ⟨⟨y, ?_⟩, hs'.1.at fun o q => (sb.2 it (Ne.symm hne)).trans q, hne, hai, hae⟩, fun b hb => ?_⟩
    · have e1 : ((i + 1 : Nat) : Int) = (i : Int) + 1 := by omega
      rw [e1]; exact he'
    · have hb' : b < s.heap.objs.size := by
        have e' : b = e ∨ b = it := by simpa using hb
        rcases e' with z | z
        · rw [z]; exact hel
        · rw [z]; exact hil
      rw [upd_ne (Nat.ne_of_lt hb')]
      exact (hf b hb).1
  done := by
    intro X hP hw hK hc i pins s σ H E I hf st hg
    subst hP hw hK
    obtain ⟨⟨old, he⟩, hit, hne, hai, hae⟩ := st
    obtain ⟨xs, hq, hx⟩ := hg
    obtain ⟨its, rv, p, hz⟩ := I.tuple hq
    have pT : s.heap.IsTuple a its.toArray := p
    obtain ⟨f0, f1, f2, f3, f4, f5⟩ := hf it (by simp)
    have hl := rv.length
    have hT : s.TypeIs (.ref e) "enumerate" := ⟨_, he, rfl⟩
    unfold pyNext
    refine wpAny_bind (wpAny_attempt (wpAny_callSpecial?_slot (name := Str.ofString "__next__") hT F.slot_enumerate_next
      (wpAny_call_entry F.slot_enumerate_next hT F.entry_enumerate_next ?_ (F.args_enumerate_next_1 _))))
    show wpAny _ _ (field (.ref e) 2 >>= _) _ _ _
    refine wpAny_bind (wpAny_field he rfl (x := .ref it) rfl ?_)
    refine wpAny_bind (wpAny_nextOf_tuple_end (I.ok.hd hc) hit pT (by simp; omega) fun h' x he' hx' => ?_)
    obtain ⟨o, ho, hc'⟩ := hx'
    refine wpAny_bind (wpAny_isInstance (T := "StopIteration") (b := true) ⟨o, ho, hc'⟩ isSubtype_stop ?_)
    exact wpAny_pure ⟨rfl, I.turned (t' := s.toks) (fun b o hb q => he' b o hb q) f0 f1 f3 f4 f5⟩
  self := fun A i s Q E st h => let ⟨⟨_, he⟩, _⟩ := st; wpAny_pyIter_enum he h
def iEnumT (K : PySem.W.Frag) (ta : TA) : TI := fun σ H R => ta σ H fun vs H1 => ∃ a xs, vs = [.ref a] ∧ SqT K H1 a xs ∧ R (IteT K a) H1
theorem pi_enumT {X : Cx} {e : Expr} {ta : TA} {p pos tpos : Pos} {elts : List Expr} {kk : Nat} (hg : Gl X "enumerate") (hm : X.mg "enumerate" = none) (ha : PA X [e] ta) (hs : starEach [e] X.env = [(false, eval e X.env)] := by rfl) :
    PI X (.Tuple elts kk tpos) (.Call (.Name "enumerate" p) [e] [] pos) (iEnumT X.K ta) := by
  refine ⟨fun pins s σ H R I h => ?_⟩
  refine Call_ (ld_blt I hg hm boot_enumerate (PyProof.Rows.callWith_type1 (thn (ha.run pos pins s σ H _ I h) fun us s1 ⟨vs, H1, I1, r1, q1⟩ => ?_) hs rfl))
  obtain ⟨a, xs, ex, hq, q⟩ := q1
  subst ex
  cases r1 with
  | cons r rr =>
    cases rr
    cases r
    obtain ⟨its, rv, p', hz⟩ := I1.tuple hq
    have pT : s1.heap.IsTuple a its.toArray := p'
    have hlt : a < s1.heap.objs.size := by obtain ⟨o, ho, _⟩ := pT; exact Heap.lt_size ho
    refine enum_begins1 (begins_tuple a its.toArray) pT fun h' he hi hk => wpAny_pyIter_enum he ?_
    have I2 : Inv X pins σ H1 { s1 with heap := h' } := I1.kept (t' := s1.toks) hk
    refine ⟨s1.heap.objs.size + 1, [s1.heap.objs.size + 1, s1.heap.objs.size], _, _, H1, rfl, I2, turn_enumT a (s1.heap.objs.size + 1) s1.heap.objs.size, ⟨⟨.none, he⟩, ⟨_, hi, rfl, rfl⟩, Nat.succ_ne_self _, Nat.ne_of_lt hlt, Nat.ne_of_lt (Nat.lt_succ_of_lt hlt)⟩, fun b hb => ?_, q⟩
    have e' : b = s1.heap.objs.size + 1 ∨ b = s1.heap.objs.size := by simpa using hb
    have hle : s1.heap.objs.size ≤ b := by
      rcases e' with z | z
      · rw [z]; exact Nat.le_add_right _ _
      · rw [z]; exact Nat.le_refl _
    exact I1.fpOk hle (I1.hok.fresh hle)
def iEnumA (K : PySem.W.Frag) (ta : TA) : TI := fun σ H R => ta σ H fun vs H1 => ∃ a xs, vs = [.ref a] ∧ ((SqL K H1 a xs ∧ R (Ite K a) H1) ∨ (SqT K H1 a xs ∧ R (IteT K a) H1))
/-- enumerate of a list or of a tuple -/
theorem pi_enumA {X : Cx} {e : Expr} {ta : TA} {p pos tpos : Pos} {elts : List Expr} {kk : Nat} (hg : Gl X "enumerate") (hm : X.mg "enumerate" = none) (ha : PA X [e] ta) (hs : starEach [e] X.env = [(false, eval e X.env)] := by rfl) :
    PI X (.Tuple elts kk tpos) (.Call (.Name "enumerate" p) [e] [] pos) (iEnumA X.K ta) := by
  refine ⟨fun pins s σ H R I h => ?_⟩
  refine Call_ (ld_blt I hg hm boot_enumerate (PyProof.Rows.callWith_type1 (thn (ha.run pos pins s σ H _ I h) fun us s1 ⟨vs, H1, I1, r1, q1⟩ => ?_) hs rfl))
  obtain ⟨a, xs, ex, q1⟩ := q1
  subst ex
  have fresh2 : ∀ b ∈ [s1.heap.objs.size + 1, s1.heap.objs.size], FpOk X pins H1 b := fun b hb => by
    have e' : b = s1.heap.objs.size + 1 ∨ b = s1.heap.objs.size := by simpa using hb
    have hle : s1.heap.objs.size ≤ b := by
      rcases e' with z | z
      · rw [z]; exact Nat.le_add_right _ _
      · rw [z]; exact Nat.le_refl _
    exact I1.fpOk hle (I1.hok.fresh hle)
  cases r1 with
  | cons r rr =>
    cases rr
    cases r
    rcases q1 with ⟨hq, q⟩ | ⟨hq, q⟩
    · obtain ⟨its, rv, p', hz⟩ := I1.list hq
      refine call_enumerate_list p'.isList fun h' he hit hsz hk => wpAny_pyIter_enum he ?_
      have I2 : Inv X pins σ H1 { s1 with heap := h' } := I1.kept (t' := s1.toks) hk
      exact ⟨s1.heap.objs.size + 1, [s1.heap.objs.size + 1, s1.heap.objs.size], _, _, H1, rfl, I2, turn_enum a (s1.heap.objs.size + 1) s1.heap.objs.size, ⟨⟨.none, he⟩, hit, Nat.succ_ne_self _⟩, fresh2, q⟩
    · obtain ⟨its, rv, p', hz⟩ := I1.tuple hq
      have pT : s1.heap.IsTuple a its.toArray := p'
      have hlt : a < s1.heap.objs.size := by obtain ⟨o, ho, _⟩ := pT; exact Heap.lt_size ho
      refine enum_begins1 (begins_tuple a its.toArray) pT fun h' he hi hk => wpAny_pyIter_enum he ?_
      have I2 : Inv X pins σ H1 { s1 with heap := h' } := I1.kept (t' := s1.toks) hk
      exact ⟨s1.heap.objs.size + 1, [s1.heap.objs.size + 1, s1.heap.objs.size], _, _, H1, rfl, I2, turn_enumT a (s1.heap.objs.size + 1) s1.heap.objs.size, ⟨⟨.none, he⟩, ⟨_, hi, rfl, rfl⟩, Nat.succ_ne_self _, Nat.ne_of_lt hlt, Nat.ne_of_lt (Nat.lt_succ_of_lt hlt)⟩, fresh2, q⟩
theorem walk_enumT {K : PySem.W.Frag} {a : Addr} {xs : List V} : Walk (IteT K a) xs.length (fun H => SqT K H a xs) (YPair (fun i => some (.int (i : Nat))) (fun i => xs[i]?)) := by
  refine ⟨fun i _ hi q => ⟨xs, xs[i], q, by simp [hi]⟩, fun _ q => ⟨xs, q, Nat.le_refl _⟩, fun i H v H' _ q y => ?_⟩
  obtain ⟨T, x, h1, h2, h3, h4⟩ := y
  exact ⟨T, .int (i : Nat), x, h1, h2, h3, rfl, h4 xs q⟩
/-! ### min(x, y), told by what x < y asks of the heap -/
section
variable {prog : Program} {w : World} {A : Around} {R : Result → Shared → Prop} {I : Addr} {fp wr : List Addr} {n : Nat} {P : Nat → Value → Prop} {St : Nat → Heap → Prop}
/-- the comparison on every heap that keeps h0 -/
def CmpAt (prog : Program) (w : World) (A : Around) (h0 : Heap) (n : Nat) (P : Nat → Value → Prop) (bt : Nat → Nat → Bool) : Prop :=
  ∀ j vi vj (s : Shared) (Q : Value → Shared → Prop) (E : Value → Shared → Prop), j + 1 < n → (∀ b o, h0.get? b = some o → s.heap.get? b = some o) → P (j + 1) vi → P (argBest bt j) vj → Q (.bool (bt (j + 1) (argBest bt j))) s → wpAny (model prog w) A (richCompare .Lt vi vj) Q E s
theorem minAt_loop (W : Walks prog w A.in1 I fp wr n P St) {h0 : Heap} (bt : Nat → Nat → Bool) (hcmp : CmpAt prog w A.in1 h0 n P bt) (S : Addr) (hSf : S ∉ fp) (h0w : ∀ b o, h0.get? b = some o → b ∉ wr ∧ b ≠ S) :
    ∀ (k j : Nat) (s : Shared) (vb : Value) (c : Nat), n - (j + 1) = k → j + 1 ≤ n → (∀ b o, h0.get? b = some o → s.heap.get? b = some o) → St (j + 1) s.heap → P (argBest bt j) vb →
    s.heap.get? S = some { cls := .type "list", dict := none, data := .seq #[vb, vb] c, slots := #[] } →
    (∀ v h' tk, P (argBest bt (n - 1)) v → (∀ b o, b ∉ wr → b ≠ S → s.heap.get? b = some o → h'.get? b = some o) → R (.ok (.ret v)) { s with heap := h', toks := tk }) →
    codeAny (model prog w) A (.builtin "min.loop" ⟨[.ref I, .none, .ref S], []⟩) R s := by
  have hSw : S ∉ wr := fun h => hSf (W.sub _ h)
  have hname : (toString "min" ++ toString ".loop" : String) = "min.loop" := by decide
  intro k
  induction k with
  | zero =>
    intro j s vb c hk hj hb0 hst hPb hS hR
    have hin : j + 1 = n := by omega
    refine codeAny_builtin F.entry_min_loop ?_
    rw [Around.under_plainId F.plain_min_loop _]
    show wpAny _ A.in1 (seqItems? (.ref S) >>= _) _ _ s
    refine wpAny_bind (wpAny_seqItems hS rfl ?_)
    show wpAny _ A.in1 (tryCatch (pyNext (.ref I)) _ >>= _) _ _ s
    refine wpAny_bind (wpAny_tryCatch (W.done s _ _ (hin ▸ hst) fun h' tk hk' => ?_))
    have hS' := hk' S _ hSw hS
    show wpAny _ A.in1 (updateSeq S (fun _ => #[]) >>= _) _ _ _
    refine wpAny_bind ?_
    refine wpAny_updateSeq hS' rfl (wpAny_bind (wpAny_letGo (wpAny_pure ?_)))
    exact hR vb _ tk (by rw [← hin]; exact hPb) fun b o hbw hbS e => (Heap.get?_update_other _ _ (Ne.symm hbS)).trans (hk' b o hbw e)
  | succ k ih =>
    intro j s vb c hk hj hb0 hst hPb hS hR
    have hlt : j + 1 < n := by omega
    refine codeAny_builtin F.entry_min_loop ?_
    rw [Around.under_plainId F.plain_min_loop _]
    show wpAny _ A.in1 (seqItems? (.ref S) >>= _) _ _ s
    refine wpAny_bind (wpAny_seqItems hS rfl ?_)
    show wpAny _ A.in1 (tryCatch (pyNext (.ref I)) _ >>= _) _ _ s
    refine wpAny_bind (wpAny_tryCatch (W.item (j + 1) s _ _ hlt hst fun v h' tk hP hst' hk' => ?_))
    have hS' := hk' S _ hSw hS
    have hb1 : ∀ b o, h0.get? b = some o → h'.get? b = some o := fun b o e => hk' b o (h0w b o e).1 (hb0 b o e)
    show wpAny _ A.in1 (tryCatch (holding [v, v] (richCompare .Lt v vb >>= _)) _ >>= _) _ _ _
    refine wpAny_bind (wpAny_tryCatch (wpAny_holding (wpAny_bind (hcmp j v vb _ _ _ hlt hb1 hP hPb ?_))))
    refine wpAny_bind (wpAny_holding (wpAny_truthy_bool ?_))
    refine wpAny_bind (wpAny_letGo (wpAny_pure ?_))
    cases hb : bt (j + 1) (argBest bt j) with
    | true =>
      simp only [if_true]
      refine wpAny_bind ?_
      refine wpAny_updateSeq hS' rfl (wpAny_bind (wpAny_letGo ?_))
      rw [hname]
      refine wpAny_pure ⟨plainId_quiet F.plain_min_loop _, ih (j + 1) _ v _ (by omega) hlt (fun b o e => (Heap.get?_update_other _ _ (Ne.symm (h0w b o e).2)).trans (hb1 b o e)) (W.frame _ _ _ hst' fun b hbf o e => ?_) (by simp only [argBest, hb, if_true]; exact hP)
        (Heap.get?_update_self _ hS' rfl) fun v' h'' tk'' hP' hk'' => ?_⟩
      · exact (Heap.get?_update_other _ _ (fun h : S = b => hSf (by rw [h]; exact hbf))).trans e
      · exact hR v' h'' tk'' hP' fun b o hbw hbS e => hk'' b o hbw hbS ((Heap.get?_update_other _ _ (Ne.symm hbS)).trans (hk' b o hbw e))
    | false =>
      simp only [Bool.false_eq_true, if_false]
      refine wpAny_bind (wpAny_letGo ?_)
      rw [hname]
      refine wpAny_pure ⟨plainId_quiet F.plain_min_loop _, ih (j + 1) _ vb c (by omega) hlt hb1 hst' (by simp only [argBest, hb, Bool.false_eq_true, if_false]; exact hPb) hS' fun v' h'' tk'' hP' hk'' => ?_⟩
      exact hR v' h'' tk'' hP' fun b o hbw hbS e => hk'' b o hbw hbS (hk' b o hbw e)
theorem minAt_first (W : Walks prog w A.in1 I fp wr n P St) {h0 : Heap} (bt : Nat → Nat → Bool) (hcmp : CmpAt prog w A.in1 h0 n P bt) (S : Addr) (hSf : S ∉ fp) (h0w : ∀ b o, h0.get? b = some o → b ∉ wr ∧ b ≠ S) (hn : 0 < n) {s : Shared} {c : Nat}
    (hb0 : ∀ b o, h0.get? b = some o → s.heap.get? b = some o) (hst : St 0 s.heap) (hS : s.heap.get? S = some { cls := .type "list", dict := none, data := .seq #[] c, slots := #[] })
    (hR : ∀ v h' tk, P (argBest bt (n - 1)) v → (∀ b o, b ∉ wr → b ≠ S → s.heap.get? b = some o → h'.get? b = some o) → R (.ok (.ret v)) { s with heap := h', toks := tk }) :
    codeAny (model prog w) A (.builtin "min.loop" ⟨[.ref I, .none, .ref S], []⟩) R s := by
  have hSw : S ∉ wr := fun h => hSf (W.sub _ h)
  have hname : (toString "min" ++ toString ".loop" : String) = "min.loop" := by decide
  refine codeAny_builtin F.entry_min_loop ?_
  rw [Around.under_plainId F.plain_min_loop _]
  show wpAny _ A.in1 (seqItems? (.ref S) >>= _) _ _ s
  refine wpAny_bind (wpAny_seqItems hS rfl ?_)
  show wpAny _ A.in1 (tryCatch (pyNext (.ref I)) _ >>= _) _ _ s
  refine wpAny_bind (wpAny_tryCatch (W.item 0 s _ _ hn hst fun v h' tk hP hst' hk' => ?_))
  have hS' := hk' S _ hSw hS
  show wpAny _ A.in1 (updateSeq S (fun _ => #[v, v]) >>= _) _ _ _
  refine wpAny_bind ?_
  refine wpAny_updateSeq hS' rfl ?_
  rw [hname]
  refine wpAny_pure ⟨plainId_quiet F.plain_min_loop _, minAt_loop W bt hcmp S hSf h0w _ 0 _ v _ rfl hn (fun b o e => (Heap.get?_update_other _ _ (Ne.symm (h0w b o e).2)).trans (hk' b o (h0w b o e).1 (hb0 b o e))) (W.frame _ _ _ hst' fun b hbf o e => ?_) hP
    (Heap.get?_update_self _ hS' rfl) fun v' h'' tk'' hP' hk'' => ?_⟩
  · exact (Heap.get?_update_other _ _ (fun h : S = b => hSf (by rw [h]; exact hbf))).trans e
  · exact hR v' h'' tk'' hP' fun b o hbw hbS e => hk'' b o hbw hbS ((Heap.get?_update_other _ _ (Ne.symm hbS)).trans (hk' b o hbw e))
end
section
variable {prog : Program} {w : World} {A : Around} {E : Value → Shared → Prop} {s : Shared}
/-- min(a, b) of two objects of the heap -/
theorem minAt_two {a b : Value} {k : Bool} {Q : Value → Shared → Prop} (hh : A.handled = none)
    (hcmp : ∀ (s' : Shared) (u v : Value) (Q' : Value → Shared → Prop) (E' : Value → Shared → Prop), (∀ c o, s.heap.get? c = some o → s'.heap.get? c = some o) → u = b → v = a → Q' (.bool k) s' → wpAny (model prog w) A.in1 (richCompare .Lt u v) Q' E' s')
    (h : ∀ h' tk, (∀ c o, s.heap.get? c = some o → h'.get? c = some o) → Q (if k = true then b else a) { s with heap := h', toks := tk }) :
    wpAny (model prog w) A (call (.builtin "min") [a, b]) Q E s := by
  have hname : (toString "min" ++ toString ".loop" : String) = "min.loop" := by decide
  refine call_function_tree F.kind_min F.plain_min F.entry_min (F.args_min2 _ _) ?_
  show wpAny _ A.in1 (Builtin.Builtins.bindParams "min" ["key", "default"] 0 ⟨[], []⟩ >>= _) _ _ s
  refine wpAny_bind (wpAny_of_eq (show Builtin.Builtins.bindParams "min" ["key", "default"] 0 ⟨[], []⟩ = pure [none, none] from rfl) ?_)
  show wpAny _ A.in1 (newTuple [a, b] >>= _) _ _ s
  refine wpAny_bind (wpAny_newObj_type ?_)
  have hT : (s.heap.push { cls := .type "tuple", data := .seq #[a, b] }).IsTuple s.heap.objs.size #[a, b] := ⟨_, Heap.get?_push_size _ rfl, rfl, 0, rfl⟩
  have hsz : (s.heap.push { cls := .type "tuple", data := .seq #[a, b] }).objs.size = s.heap.objs.size + 1 := Heap.size_push ..
  refine wpAny_bind (wpAny_pyIter_tuple hT ?_)
  refine wpAny_bind (wpAny_newObj_type ?_)
  have W := Walks.tuple (prog := prog) (w := w) (A := A.in1) hh (s.heap.push { cls := .type "tuple", data := .seq #[a, b] }).objs.size s.heap.objs.size (by rw [hsz]; exact Nat.ne_of_lt (Nat.lt_succ_self _)) #[a, b]
  have hst0 := (show (((s.heap.push { cls := .type "tuple", data := .seq #[a, b] }).push { cls := .type "tuple_iterator", data := .fields #[.ref s.heap.objs.size, .int 0 0] })).IsTupleIter (s.heap.push { cls := .type "tuple", data := .seq #[a, b] }).objs.size s.heap.objs.size 0 from ⟨_, Heap.get?_push_size _ rfl, rfl, rfl⟩)
  rw [hname]
  have hz2 : ((s.heap.push { cls := .type "tuple", data := .seq #[a, b] }).push { cls := .type "tuple_iterator", data := .fields #[.ref s.heap.objs.size, .int 0 0] }).objs.size = s.heap.objs.size + 2 := by rw [Heap.size_push, hsz]
  refine wpAny_pure ⟨plainId_quiet F.plain_min_loop _, minAt_first (h0 := s.heap) W (fun _ _ => k) ?_ _ ?_ ?_ ?_ ?_ (W.frame 0 _ _ ⟨hst0, hT.push _⟩ fun c _ o e => Heap.get?_push_of_some _ e) (Heap.get?_push_size _ rfl) ?_⟩
  · intro j vi vj s' Q' E' hj hk hi hj' hq
    have e0 : j = 0 := by
      have q : j + 1 < 2 := hj
      omega
    subst e0
    have ei : vi = b := by
      have q : (#[a, b] : Array Value)[1]? = some vi := hi
      simpa using q.symm
    have ej : vj = a := by
      have q : (#[a, b] : Array Value)[0]? = some vj := hj'
      simpa using q.symm
    exact hcmp s' vi vj Q' E' hk ei ej hq
  · intro hm
    have hm' : ((s.heap.push { cls := .type "tuple", data := .seq #[a, b] }).push { cls := .type "tuple_iterator", data := .fields #[.ref s.heap.objs.size, .int 0 0] }).objs.size ∈ [(s.heap.push { cls := .type "tuple", data := .seq #[a, b] }).objs.size, s.heap.objs.size] := hm
    rw [hz2, hsz] at hm'
    rcases List.mem_cons.mp hm' with q | q
    · omega
    · have q' := List.mem_singleton.mp q
      omega
  · intro c o e
    have q := Heap.lt_size e
    constructor
    · intro hm
      have q' : c = (s.heap.push { cls := .type "tuple", data := .seq #[a, b] }).objs.size := List.mem_singleton.mp hm
      rw [hsz] at q'
      exact Nat.ne_of_lt (Nat.lt_succ_of_lt q) q'
    · show c ≠ ((s.heap.push { cls := .type "tuple", data := .seq #[a, b] }).push { cls := .type "tuple_iterator", data := .fields #[.ref s.heap.objs.size, .int 0 0] }).objs.size
      rw [hz2]
      exact Nat.ne_of_lt (Nat.lt_succ_of_lt (Nat.lt_succ_of_lt q))
  · show 0 < 2
    omega
  · intro c o e
    exact Heap.get?_push_of_some _ (Heap.get?_push_of_some _ (Heap.get?_push_of_some _ e))
  · intro v h' tk hP hk
    have hold : ∀ c o, s.heap.get? c = some o → h'.get? c = some o := fun c o e => by
      have q := Heap.lt_size e
      refine hk c o (fun hm => ?_) ?_ (Heap.get?_push_of_some _ (Heap.get?_push_of_some _ (Heap.get?_push_of_some _ e)))
      · have q' : c = (s.heap.push { cls := .type "tuple", data := .seq #[a, b] }).objs.size := List.mem_singleton.mp hm
        rw [hsz] at q'
        exact Nat.ne_of_lt (Nat.lt_succ_of_lt q) q'
      · show c ≠ ((s.heap.push { cls := .type "tuple", data := .seq #[a, b] }).push { cls := .type "tuple_iterator", data := .fields #[.ref s.heap.objs.size, .int 0 0] }).objs.size
        rw [hz2]
        exact Nat.ne_of_lt (Nat.lt_succ_of_lt (Nat.lt_succ_of_lt q))
    have hv : v = if k = true then b else a := by
      cases k with
      | true =>
        have q : (#[a, b] : Array Value)[1]? = some v := hP
        simpa using q.symm
      | false =>
        have q : (#[a, b] : Array Value)[0]? = some v := hP
        simpa using q.symm
    rw [hv]
    exact h h' tk hold
end
/-- min(x, y), two data that are alike in shape: one of both -/
def rMinD (K : PySem.W.Frag) : List V → Hp → VK → Prop := fun vs H Q => ∃ (x y : V) (d e : PyData), vs = [x, y] ∧ Dp K H x d ∧ Dp K H y e ∧ PySem.W.alike e d = true ∧ e ≠ .none ∧ d.depth ≤ 60 ∧ ∀ b : Bool, Q (if b = true then y else x) H
theorem cr_minD {X : Cx} (hc : X.calm = true) (hu : X.A.units + 64 < cLine) : CallR X (.builtin "min") (rMinD X.K) := by
  intro pins s σ H vs us Q I r h
  obtain ⟨x, y, d, e, rfl, hd, he, hal, hn, hdep, q⟩ := h
  obtain ⟨u, v, rfl, rx, ry⟩ := vals2 r
  obtain ⟨as, r1⟩ := Dp.reads I d x u hd rx
  obtain ⟨bs, r2⟩ := Dp.reads I e y v he ry
  refine minAt_two (k := PySem.W.dataLt e d) (I.ok.hd hc) (fun s' u' v' Q' E' hk eu ev hq => ?_) fun h' tk hk => ?_
  · subst eu ev
    refine PySem.W.rcLt_alike e d X.A.in1 s' u' v' _ _ (Reads.keeps hk r2) (Reads.keeps hk r1) hal hn ?_ _ _ _ _ hq
    show X.A.units + 1 + min e.depth d.depth < cLine
    omega
  · refine ⟨if PySem.W.dataLt e d = true then y else x, H, I.kept hk, ?_, q _⟩
    by_cases hb : PySem.W.dataLt e d = true
    · rw [if_pos hb, if_pos hb]; exact ry
    · rw [if_neg hb, if_neg hb]; exact rx
end Lk
/-! dicts whose keys are tuples: dict(a list of pairs), d.values(), list of these -/
namespace Lk
open PySem PySem.Spec PyProof.Rows L2
theorem storedAllH_new {K : Type} [DecidableEq K] : ∀ (ps xs : List (K × Addr × Value)), ((xs ++ ps).map (·.1)).Nodup → storedAllH xs ps = xs ++ ps
  | [], xs, _ => by
    rw [List.append_nil]
    rfl
  | p :: ps, xs, h => by
    have hn : atKey xs p.1 = none := by
      refine atKey_none_of_get fun i q hi => ?_
      rw [List.map_append, List.map_cons] at h
      have h2 := (List.nodup_append.mp h).2.2
      exact h2 p.1 (List.mem_map.mpr ⟨_, List.mem_of_getElem? hi, rfl⟩) p.1 (List.mem_cons_self) rfl
    show storedAllH (storedH xs p.1 p.2.1 p.2.2) ps = xs ++ p :: ps
    rw [storedH_new hn]
    have e : xs ++ p :: ps = (xs ++ [(p.1, p.2.1, p.2.2)]) ++ ps := by simp
    rw [e]
    exact storedAllH_new ps _ (by rw [← e]; exact h)
section
variable {X : Cx}
theorem trips_of {pins : List (Addr × Obj)} {σ : L2.St} {H : Hp} {s : Shared} (I : Inv X pins σ H s) : ∀ {ps : List Addr} {kvs : List (List Key × V)},
    Paired (fun p (kv : List Key × V) => ∃ b, SqT X.K H p [.ref b, kv.2] ∧ H b = some (.tup (kv.1.map kV))) ps kvs →
    ∃ ts : List (List Key × Addr × Value), KT H kvs ts ∧ ts.length = ps.length ∧ ∀ (j : Nat) t, ts[j]? = some t → ∃ b, ps[j]? = some b ∧ IsTup s.heap b #[.ref t.2.1, t.2.2] ∧ H t.2.1 = some (.tup (t.1.map kV))
  | _, _, .nil => ⟨[], .nil, rfl, fun j q e => by simp at e⟩
  | _, _, .cons (a := p) (b := kv) h t => by
    obtain ⟨ts, r, hl, hp⟩ := trips_of I t
    obtain ⟨b, hq, hb⟩ := h
    obtain ⟨its, rv, ht, _⟩ := I.tuple hq
    obtain ⟨u, y, ei, ru, ry⟩ := vals2 rv
    cases ru
    subst ei
    refine ⟨(kv.1, b, y) :: ts, .cons ⟨rfl, hb, ry⟩ r, by rw [List.length_cons, List.length_cons, hl], fun j q e => ?_⟩
    cases j with
    | zero =>
      have e' : (kv.1, b, y) = q := Option.some.inj e
      subst e'
      exact ⟨p, rfl, ht, hb⟩
    | succ j =>
      obtain ⟨b', e1, e2⟩ := hp j q (by simpa using e)
      exact ⟨b', by simpa using e1, e2⟩
/-- dict(xs) of a list of pairs (tuple, value), no key twice -/
def rDictT (K : PySem.W.Frag) : List V → Hp → VK → Prop := fun xs H Q => ∃ (a : Addr) (ps : List Addr) (kvs : List (List Key × V)), xs = [.ref a] ∧ SqL K H a (ps.map V.ref) ∧
  Paired (fun p (kv : List Key × V) => ∃ b, SqT K H p [.ref b, kv.2] ∧ H b = some (.tup (kv.1.map kV))) ps kvs ∧ (kvs.map (·.1)).Nodup ∧ ∀ p, H p = none → Q (.ref p) (upd H p (.dT kvs))
theorem call_dictT (hcalm : X.calm = true) (hu : X.A.units + 2 < cLine) : CallR X (.type "dict") (rDictT X.K) := by
  intro pins s σ H xs us Q I r q
  obtain ⟨a, ps, kvs, ex, hq, hp, hnd, q⟩ := q
  subst ex
  obtain ⟨u, eu, rx⟩ := vals1 r
  subst eu
  cases rx
  obtain ⟨its, rv, pl, hz⟩ := I.list hq
  have ei := refs_at rv
  subst ei
  rw [List.length_map] at hz
  obtain ⟨ts, rel, hl, hpr⟩ := trips_of I hp
  have hlk : kvs.length = ts.length := Paired.length rel
  have hmap : kvs.map (·.1) = ts.map (·.1) := by
    clear hnd hpr hl hlk q hp
    induction rel with
    | nil => rfl
    | cons h t ih => rw [List.map_cons, List.map_cons, ih, h.1]
  have hndt : (ts.map (·.1)).Nodup := by rw [← hmap]; exact hnd
  have hkey : ∀ (j : Nat) t, ts[j]? = some t → (tupleKind (mixKind X.prog X.w)).is s.heap t.1 t.2.1 := fun j t e => by
    obtain ⟨b, _, _, hb⟩ := hpr j t e
    exact key_of I.hok hb
  let prs : List (Value × Value) := ts.map fun t => (Value.ref t.2.1, t.2.2)
  have hprl : prs.length = ts.length := List.length_map ..
  have P := PairArg.list (prog := X.prog) (w := X.w) a (ps.map Value.ref).toArray (fun j => ps.getD j 0) prs
  have hn : prs.length ≤ sizeLine := by rw [hprl, hl]; exact hz
  refine call_dict_pairsH (knd := tupleKind (mixKind X.prog X.w)) (ps := ts) P (I.ok.hd hcalm) hu ⟨pl, ?_, fun j k v e => ?_⟩ ⟨hprl.symm, fun i key v hr => ?_⟩ (fun h' hk x hx => ?_) hn fun h' tk hd' hk => ?_
  · rw [List.size_toArray, List.length_map, hprl, hl]
  · have e' : (ts.map fun t => (Value.ref t.2.1, t.2.2))[j]? = some (k, v) := e
    rw [List.getElem?_map] at e'
    obtain ⟨t, ht, e2⟩ := Option.map_eq_some_iff.mp e'
    cases e2
    obtain ⟨b, h1, h2, _⟩ := hpr j t ht
    have eb : ps.getD j 0 = b := by rw [List.getD_eq_getElem?_getD, h1]; rfl
    refine ⟨?_, ?_⟩
    · rw [List.getElem?_toArray, List.getElem?_map, h1]
      show some (Value.ref b) = some (Value.ref (ps.getD j 0))
      rw [eb]
    · show PairAt s.heap (ps.getD j 0) _ _
      rw [eb]
      exact .inl h2
  · have e' : (ts.map fun t => (Value.ref t.2.1, t.2.2))[i]? = some (key, v) := hr
    rw [List.getElem?_map] at e'
    obtain ⟨t, ht, e2⟩ := Option.map_eq_some_iff.mp e'
    cases e2
    exact ⟨t.1, t.2.1, ht, rfl⟩
  · obtain ⟨j, hj, ej⟩ := List.getElem_of_mem hx
    have hx' : ts[j]? = some x := by rw [List.getElem?_eq_getElem hj, ej]
    obtain ⟨b, _, _, hb⟩ := hpr j x hx'
    obtain ⟨_, its, r', o, h1, h2, n, h3⟩ := (show ObjOk X.prog X.w H s.heap x.2.1 (.tup (x.1.map kV)) from I.hok _ _ hb)
    exact ⟨o, its.toArray, n, hk _ _ (Nat.ne_of_lt (Heap.lt_size h1)) (by simp) h1, h2, h3, by simpa using items_are r'⟩
  · have hm : (s.heap.objs.size == sysModules) = false := beq_eq_false_iff_ne.mpr (Nat.ne_of_gt I.big)
    have hst : storedAllH [] ts = ts := by
      have e := storedAllH_new ts [] (by simpa using hndt)
      simpa using e
    rw [hst] at hd'
    obtain ⟨o, es, ep, h1, h2, h3, h4, _, h5⟩ := hd'
    have hf : H s.heap.objs.size = none := I.hok.fresh (Nat.le_refl _)
    refine ⟨.ref s.heap.objs.size, upd H s.heap.objs.size (.dT kvs), I.laid (t' := tk) (fun b o e => hk b o (by simp) e) (Nat.le_refl _) (show ObjOk X.prog X.w _ _ _ (.dT kvs) from ⟨by rw [hlk, hl]; exact hz, hm, ts, L2.Paired.mapP rel fun p q z => ⟨z.1, ?_, z.2.2⟩, o, es, ep, h1, h2, h3, h4, h5⟩), rfl, q _ hf⟩
    rw [upd_ne (ne_of_none z.2.1 hf)]
    exact z.2.1
/-- the view d.values() at p -/
def valsO (p d : Addr) : HO := .ext fun h => h.IsValuesView p d
def rValuesT : V → List V → Hp → VK → Prop := fun x xs H Q => ∃ (a : Addr) (kvs : List (List Key × V)), x = .ref a ∧ xs = [] ∧ H a = some (.dT kvs) ∧ ∀ p, H p = none → Q (.ref p) (upd H p (valsO p a))
theorem mt_valuesT : MtR X "dict.values" rValuesT := by
  intro pins s σ H x xs v us Q I rx rxs h
  obtain ⟨a, kvs, rfl, rfl, ha, q⟩ := h
  cases rx
  cases rxs
  obtain ⟨z, hd, xs', rel, o, es, ep, ho, hx, hdat, _⟩ := dt_of I.hok ha
  have hraw : s.heap.DictRaw a es ep := ⟨o, ho, hx, hdat⟩
  refine call_meetsIn F.slot_dict_values hraw.typeIs F.entry_dict_values (F.args_dict_values_1 _) (meets_dict_values_raw a hd) ⟨⟨es, ep, hraw⟩, ?_⟩
  have hf : H s.heap.objs.size = none := I.hok.fresh (Nat.le_refl _)
  have hnew : (s.heap.push { cls := .type "dict_values", data := .fields #[.ref a] }).get? s.heap.objs.size = some { cls := .type "dict_values", data := .fields #[.ref a] } := Heap.get?_push_size _ rfl
  exact ⟨.ref s.heap.objs.size, upd H s.heap.objs.size (valsO s.heap.objs.size a), I.laid (t' := s.toks) (fun b u e => Heap.get?_push_of_some _ e) (Nat.le_refl _)
    ⟨⟨_, hnew, rfl, rfl⟩, ⟨_, hnew⟩, fun h1 h2 x k => let ⟨o, ho, r⟩ := x; ⟨o, k o ho, r⟩⟩, rfl, q _ hf⟩
def rListVals : List V → Hp → VK → Prop := fun xs H Q => ∃ (p a : Addr) (kvs : List (List Key × V)), xs = [.ref p] ∧ H p = some (valsO p a) ∧ H a = some (.dT kvs) ∧ ∀ l, H l = none → Q (.ref l) (upd H l (.lst (kvs.map (·.2))))
theorem call_list_vals (hc : X.calm = true) : CallR X (.type "list") rListVals := by
  intro pins s σ H xs us Q I r h
  obtain ⟨v, a, kvs, rfl, hv, ha, q⟩ := h
  obtain ⟨u, rfl, rx⟩ := vals1 r
  cases rx
  obtain ⟨z, hs, ks, rel, dd⟩ := dt_of I.hok ha
  obtain ⟨es, ep, hraw, hsz, hent⟩ := dd.raw
  have hview : s.heap.IsValuesView v a := (I.hok v _ hv).1
  have l2 : kvs.length = ks.length := Paired.length rel
  refine PySem.W.kdl_call (KdlSrc.rawValues (prog := X.prog) (w := X.w) (r := v) (d := a) (es := es) (ep := ep)) (I.ok.hd hc) ⟨hview, hraw⟩ (by omega) fun h' tk acc' c' kp e it => ?_
  have hlen : acc'.toList.length = kvs.length := by rw [Array.length_toList, it.1, hsz, l2]
  have rv : Vals (kvs.map (·.2)) acc'.toList := by
    have key : ∀ (n : Nat) (l : List (List Key × V)) (m : List (List Key × Addr × Value)) (w : List Value), KT H l m → w.length = l.length → (∀ (j : Nat) (u : Value), w[j]? = some u → ∃ y : List Key × Addr × Value, m[j]? = some y ∧ u = y.2.2) → L2.Vals (l.map (·.2)) w := by
      intro n l m w rel
      induction rel generalizing w with
      | nil =>
        intro hl _
        have e : w = [] := List.length_eq_zero_iff.mp hl
        rw [e]
        exact .nil
      | cons h t ih =>
        intro hl hj
        cases w with
        | nil => simp at hl
        | cons u w =>
          obtain ⟨y, hy, eu⟩ := hj 0 u rfl
          have ey := Option.some.inj hy
          refine .cons ?_ (ih w (by simpa using hl) fun j u' hu' => hj (j + 1) u' (by simpa using hu'))
          rw [eu, ← ey]
          exact h.2.2
    refine key 0 kvs ks acc'.toList rel hlen fun j u hj => ?_
    have hja : acc'[j]? = some u := by rw [← Array.getElem?_toList]; exact hj
    obtain ⟨hi, eu⟩ := it.2 j u hja
    obtain ⟨y, hy, _, h2, _⟩ := hent j hi
    exact ⟨y, hy, eu.trans h2⟩
  have hf : H s.heap.objs.size = none := I.hok.fresh (Nat.le_refl _)
  have hz : (kvs.map (·.2)).length ≤ sizeLine := by rw [List.length_map]; exact z
  exact ⟨.ref s.heap.objs.size, upd H s.heap.objs.size (.lst (kvs.map (·.2))), I.laid (t' := tk) kp (Nat.le_refl _) (show ObjOk X.prog X.w _ _ _ (.lst _) from ⟨hz, acc'.toList, c', rv, by simpa using e⟩), rfl, q _ hf⟩
end
end Lk
/-! the plain law: lifted places, rests, reaches, greatest rows -/
namespace Lk
/-! ### the next multiple -/
def lift (x s : Int) : Int := x + (0 - x) % s
theorem lift_ge {x s : Int} (h : 0 < s) : x ≤ lift x s := by
  have := Int.emod_nonneg (0 - x) (Int.ne_of_gt h)
  unfold lift
  omega
theorem lift_lt {x s : Int} (h : 0 < s) : lift x s < x + s := by
  have := Int.emod_lt_of_pos (0 - x) h
  unfold lift
  omega
theorem lift_dvd {x s : Int} : s ∣ lift x s := by
  have e := Int.mul_ediv_add_emod (0 - x) s
  refine ⟨- ((0 - x) / s), ?_⟩
  unfold lift
  rw [Int.mul_neg]
  omega
theorem lift_least {x y s : Int} (h : 0 < s) (hy : s ∣ y) (hxy : x ≤ y) : lift x s ≤ y := by
  obtain ⟨a, rfl⟩ := hy
  obtain ⟨b, hb⟩ := (lift_dvd : s ∣ lift x s)
  have h1 := lift_lt (x := x) h
  rw [hb] at h1 ⊢
  by_cases hba : b ≤ a
  · exact Int.mul_le_mul_of_nonneg_left hba (Int.le_of_lt h)
  · exfalso
    have h2 : s * (a + 1) ≤ s * b := Int.mul_le_mul_of_nonneg_left (by omega) (Int.le_of_lt h)
    rw [Int.mul_add, Int.mul_one] at h2
    omega
theorem lift_mono {x y s : Int} (h : 0 < s) (hxy : x ≤ y) : lift x s ≤ lift y s :=
  lift_least h lift_dvd (Int.le_trans hxy (lift_ge h))
theorem lift_shift {x t s : Int} (h : s ∣ t) : lift (x + t) s = lift x s + t := by
  obtain ⟨a, rfl⟩ := h
  unfold lift
  have e : (0 - (x + s * a)) % s = (0 - x) % s := by
    have e1 : 0 - (x + s * a) = (0 - x) + s * (-a) := by rw [Int.mul_neg]; omega
    rw [e1, Int.add_mul_emod_self_left]
  rw [e]
  omega
theorem lift_self {x s : Int} (h : s ∣ x) : lift x s = x := by
  obtain ⟨a, rfl⟩ := h
  unfold lift
  have e : (0 - s * a) % s = 0 := by
    have e1 : 0 - s * a = s * (-a) := by rw [Int.mul_neg]; omega
    rw [e1, Int.mul_emod_right]
  rw [e]
  omega
theorem emod_of_eq {x y p : Int} (h : x % p = y % p) : ∃ k, y = x + p * k := by
  refine ⟨y / p - x / p, ?_⟩
  have h1 := Int.mul_ediv_add_emod x p
  have h2 := Int.mul_ediv_add_emod y p
  rw [Int.mul_sub]
  omega
theorem lift_emod {x y s p : Int} (hs : s ∣ p) (h : x % p = y % p) : lift x s % p = lift y s % p := by
  obtain ⟨k, rfl⟩ := emod_of_eq h
  rw [lift_shift (Int.dvd_trans hs ⟨k, rfl⟩), Int.add_mul_emod_self_left]
/-! ### addresses along a line of parts: st the step of each part, sz the sizes -/
def adr (st sz : Nat → Int) : Nat → Int
  | 0 => lift 0 (st 0)
  | k + 1 => lift (adr st sz k + sz k) (st (k + 1))
def beh (st sz : Nat → Int) (a : Nat) (x : Int) : Nat → Int
  | 0 => x
  | n + 1 => lift (beh st sz a x n + sz (a + n)) (st (a + n + 1))
theorem adr_beh (st sz : Nat → Int) (a : Nat) : ∀ n, adr st sz (a + n) = beh st sz a (adr st sz a) n
  | 0 => rfl
  | n + 1 => by
    show lift (adr st sz (a + n) + sz (a + n)) (st (a + n + 1)) = _
    rw [adr_beh st sz a n]
    rfl
theorem adr_congr {st sz sz' : Nat → Int} : ∀ n, (∀ k, k < n → sz k = sz' k) → adr st sz n = adr st sz' n
  | 0, _ => rfl
  | n + 1, h => by
    show lift (adr st sz n + sz n) _ = lift (adr st sz' n + sz' n) _
    rw [adr_congr n fun k hk => h k (by omega), h n (by omega)]
theorem beh_congr {st sz sz' : Nat → Int} {a : Nat} {x : Int} : ∀ n, (∀ k, a ≤ k → k < a + n → sz k = sz' k) → beh st sz a x n = beh st sz' a x n
  | 0, _ => rfl
  | n + 1, h => by
    show lift (beh st sz a x n + sz (a + n)) _ = lift (beh st sz' a x n + sz' (a + n)) _
    rw [beh_congr n fun k hk hk2 => h k hk (by omega), h (a + n) (by omega) (by omega)]
theorem beh_mono {st sz sz' : Nat → Int} {a : Nat} {x : Int} (hs : ∀ k, 0 < st k) : ∀ n, (∀ k, a ≤ k → k < a + n → sz k ≤ sz' k) → beh st sz a x n ≤ beh st sz' a x n
  | 0, _ => Int.le_refl _
  | n + 1, h => by
    refine lift_mono (hs _) ?_
    have h1 := beh_mono hs (x := x) n fun k hk hk2 => h k hk (by omega)
    have h2 := h (a + n) (by omega) (by omega)
    omega
theorem beh_shift {st sz : Nat → Int} {a : Nat} {x p m : Int} (hd : ∀ k, st k ∣ p) : ∀ n, beh st sz a (x + p * m) n = beh st sz a x n + p * m
  | 0 => rfl
  | n + 1 => by
    show lift (beh st sz a (x + p * m) n + sz (a + n)) _ = lift (beh st sz a x n + sz (a + n)) _ + p * m
    rw [beh_shift hd n, show beh st sz a x n + p * m + sz (a + n) = beh st sz a x n + sz (a + n) + p * m by omega, lift_shift (Int.dvd_trans (hd _) ⟨m, rfl⟩)]
/-! ### the rests that come -/
inductive IsRest (st lo hi : Nat → Int) (p : Int) : Nat → Int → Prop
  | zero : IsRest st lo hi p 0 0
  | succ {n : Nat} {r z : Int} (h : IsRest st lo hi p n r) (h1 : lo n ≤ z) (h2 : z ≤ hi n) (h3 : z ≤ lo n + p - 1) : IsRest st lo hi p (n + 1) (lift (r + z) (st (n + 1)) % p)
theorem IsRest.inv {st lo hi : Nat → Int} {p r' : Int} {n : Nat} (h : IsRest st lo hi p (n + 1) r') : ∃ r z, IsRest st lo hi p n r ∧ lo n ≤ z ∧ z ≤ hi n ∧ z ≤ lo n + p - 1 ∧ r' = lift (r + z) (st (n + 1)) % p := by
  cases h with
  | succ h h1 h2 h3 => exact ⟨_, _, h, h1, h2, h3, rfl⟩
theorem rest_range {st lo hi : Nat → Int} {p : Int} (hp : 0 < p) : ∀ {n r}, IsRest st lo hi p n r → 0 ≤ r ∧ r < p
  | _, _, .zero => ⟨Int.le_refl _, hp⟩
  | _, _, .succ _ _ _ _ => ⟨Int.emod_nonneg _ (Int.ne_of_gt hp), Int.emod_lt_of_pos _ hp⟩
theorem rest_of {st lo hi sz : Nat → Int} {p : Int} (hp : 0 < p) (hd : ∀ k, st k ∣ p) : ∀ n, (∀ k, k < n → lo k ≤ sz k ∧ sz k ≤ hi k) → IsRest st lo hi p n (adr st sz n % p)
  | 0, _ => by
    have e : adr st sz 0 % p = 0 := by
      show lift 0 (st 0) % p = 0
      rw [lift_self ⟨0, by omega⟩]
      exact Int.zero_emod p
    rw [e]
    exact .zero
  | n + 1, h => by
    have ih := rest_of hp hd n fun k hk => h k (by omega)
    obtain ⟨h1, h2⟩ := h n (by omega)
    have q0 := Int.emod_nonneg (sz n - lo n) (Int.ne_of_gt hp)
    have q1 := Int.emod_lt_of_pos (sz n - lo n) hp
    have q2 : (sz n - lo n) % p ≤ sz n - lo n := by
      by_cases hlt : sz n - lo n < p
      · rw [Int.emod_eq_of_lt (by omega) hlt]; exact Int.le_refl _
      · omega
    have key := IsRest.succ ih (z := lo n + (sz n - lo n) % p) (by omega) (by omega) (by omega)
    have e : lift (adr st sz n % p + (lo n + (sz n - lo n) % p)) (st (n + 1)) % p = adr st sz (n + 1) % p := by
      refine lift_emod (hd _) ?_
      have e1 : adr st sz n + sz n = (adr st sz n % p + (lo n + (sz n - lo n) % p)) + p * (adr st sz n / p + (sz n - lo n) / p) := by
        have a1 := Int.mul_ediv_add_emod (adr st sz n) p
        have a2 := Int.mul_ediv_add_emod (sz n - lo n) p
        rw [Int.mul_add]
        omega
      rw [e1, Int.add_mul_emod_self_left]
    rw [← e]
    exact key
theorem of_rest {st lo hi : Nat → Int} {p : Int} (hd : ∀ k, st k ∣ p) : ∀ {n r}, IsRest st lo hi p n r → ∃ sz : Nat → Int, (∀ k, k < n → lo k ≤ sz k ∧ sz k ≤ hi k) ∧ adr st sz n % p = r % p
  | _, _, .zero => ⟨fun _ => 0, fun k hk => absurd hk (Nat.not_lt_zero k), by
    show lift 0 (st 0) % p = 0 % p
    rw [lift_self ⟨0, by omega⟩]⟩
  | _, _, .succ (n := n) (r := r) (z := z) h h1 h2 h3 => by
    obtain ⟨sz, hsz, e⟩ := of_rest hd h
    refine ⟨fun k => if k < n then sz k else z, fun k hk => ?_, ?_⟩
    · by_cases hkn : k < n
      · simp only [hkn, if_true]; exact hsz k hkn
      · have : k = n := by omega
        subst this
        simp only [Nat.lt_irrefl, if_false]
        exact ⟨h1, h2⟩
    · show lift (adr st _ n + (if n < n then sz n else z)) (st (n + 1)) % p = _
      rw [if_neg (Nat.lt_irrefl n), adr_congr (sz' := sz) n fun k hk => if_pos hk, Int.emod_emod]
      refine lift_emod (hd _) ?_
      rw [Int.add_emod, e, ← Int.add_emod]
/-- THE REACH: what is greatest over the rests is greatest over all sizes up to the bounds -/
structure IsMax (st lo hi : Nat → Int) (p : Int) (a n : Nat) (m : Int) : Prop where
  at_ : ∃ r, IsRest st lo hi p a r ∧ m = beh st hi a r n - r
  top : ∀ r, IsRest st lo hi p a r → beh st hi a r n - r ≤ m
theorem reach_max {st lo hi : Nat → Int} {p m far : Int} {a n : Nat} (hp : 0 < p) (hs : ∀ k, 0 < st k) (hd : ∀ k, st k ∣ p) (hlh : ∀ k, k < a + n → lo k ≤ hi k) (h : IsMax st lo hi p a n m) :
    m ≤ far ↔ ∀ sz : Nat → Int, (∀ k, k < a + n → lo k ≤ sz k ∧ sz k ≤ hi k) → adr st sz (a + n) - adr st sz a ≤ far := by
  constructor
  · intro hm sz hsz
    have hr := rest_of hp hd a fun k hk => hsz k (by omega)
    have ht := h.top _ hr
    have e : adr st sz a = adr st sz a % p + p * (adr st sz a / p) := by
      have := Int.mul_ediv_add_emod (adr st sz a) p
      omega
    have e2 : adr st sz (a + n) = beh st sz a (adr st sz a % p) n + p * (adr st sz a / p) := by
      rw [adr_beh]
      conv => lhs; rw [e]
      exact beh_shift hd n
    have hmono := beh_mono (sz' := hi) hs (x := adr st sz a % p) n fun k h1 h2 => (hsz k (by omega)).2
    omega
  · intro hall
    obtain ⟨r, hr, em⟩ := h.at_
    obtain ⟨f, hf, ef⟩ := of_rest hd hr
    have hall' := hall (fun k => if k < a then f k else hi k) fun k hk => by
      by_cases hka : k < a
      · simp only [hka, if_true]; exact hf k hka
      · simp only [hka, if_false]; exact ⟨hlh k hk, Int.le_refl _⟩
    have e1 : adr st (fun k => if k < a then f k else hi k) a = adr st f a := adr_congr a fun k hk => if_pos hk
    have e2 : adr st (fun k => if k < a then f k else hi k) (a + n) = beh st hi a (adr st f a) n := by
      rw [adr_beh, e1]
      exact beh_congr n fun k h1 h2 => if_neg (by omega)
    obtain ⟨k, ek⟩ := emod_of_eq ef.symm
    rw [e1, e2, ek, beh_shift hd n] at hall'
    omega
/-! ### rows -/
def spread (l m : Int) : List Int := (List.range (m + 1 - l).toNat).map fun (i : Nat) => l + (i : Int)
theorem mem_spread {l m x : Int} : x ∈ spread l m ↔ l ≤ x ∧ x ≤ m := by
  unfold spread
  rw [List.mem_map]
  constructor
  · rintro ⟨i, hi, rfl⟩
    have := List.mem_range.mp hi
    omega
  · rintro ⟨h1, h2⟩
    exact ⟨(x - l).toNat, List.mem_range.mpr (by omega), by omega⟩
theorem nodup_spread {l m : Int} : (spread l m).Nodup := by
  unfold spread
  exact List.pairwise_map.mpr (List.nodup_range.imp fun h e => h (by omega))
def grow (rs : List (List Int)) (l m : Int) : List (List Int) := rs.flatMap fun r => (spread l m).map fun x => r ++ [x]
def rowsZ (zs : List (Int × Int)) : List (List Int) := zs.foldl (fun rs z => grow rs z.1 z.2) [[]]
theorem rowsZ_snoc (zs : List (Int × Int)) (z : Int × Int) : rowsZ (zs ++ [z]) = grow (rowsZ zs) z.1 z.2 := by
  unfold rowsZ
  rw [List.foldl_append]
  rfl
/-- a row that lies in the ranges -/
def InZ : List (Int × Int) → List Int → Prop
  | [], [] => True
  | z :: zs, x :: xs => (z.1 ≤ x ∧ x ≤ z.2) ∧ InZ zs xs
  | _, _ => False
theorem inZ_len : ∀ {zs : List (Int × Int)} {xs : List Int}, InZ zs xs → xs.length = zs.length
  | [], [], _ => rfl
  | _ :: _, _ :: _, h => by rw [List.length_cons, List.length_cons, inZ_len h.2]
  | [], _ :: _, h => h.elim
  | _ :: _, [], h => h.elim
theorem inZ_snoc : ∀ {zs : List (Int × Int)} {z : Int × Int} {r : List Int}, InZ (zs ++ [z]) r ↔ ∃ s x, r = s ++ [x] ∧ InZ zs s ∧ z.1 ≤ x ∧ x ≤ z.2
  | [], z, r => by
    cases r with
    | nil => exact ⟨fun h => h.elim, fun ⟨s, x, e, _⟩ => by cases s <;> simp at e⟩
    | cons y ys =>
      constructor
      · intro h
        cases ys with
        | nil => exact ⟨[], y, rfl, True.intro, h.1⟩
        | cons _ _ => exact (h.2).elim
      · rintro ⟨s, x, e, hs, hx⟩
        cases s with
        | nil =>
          simp only [List.nil_append, List.cons.injEq] at e
          obtain ⟨rfl, rfl⟩ := e
          exact ⟨hx, True.intro⟩
        | cons _ _ => exact hs.elim
  | w :: zs, z, r => by
    cases r with
    | nil => exact ⟨fun h => h.elim, fun ⟨s, x, e, _⟩ => by cases s <;> simp at e⟩
    | cons y ys =>
      constructor
      · intro h
        obtain ⟨s, x, rfl, hs, hx⟩ := inZ_snoc.mp h.2
        exact ⟨y :: s, x, rfl, ⟨h.1, hs⟩, hx⟩
      · rintro ⟨s, x, e, hs, hx⟩
        cases s with
        | nil => exact hs.elim
        | cons t ts =>
          simp only [List.cons_append, List.cons.injEq] at e
          obtain ⟨rfl, rfl⟩ := e
          exact ⟨hs.1, inZ_snoc.mpr ⟨ts, x, rfl, hs.2, hx⟩⟩
theorem mem_grow {rs : List (List Int)} {l m : Int} {r : List Int} : r ∈ grow rs l m ↔ ∃ s x, r = s ++ [x] ∧ s ∈ rs ∧ l ≤ x ∧ x ≤ m := by
  unfold grow
  rw [List.mem_flatMap]
  constructor
  · rintro ⟨s, hs, h⟩
    obtain ⟨x, hx, rfl⟩ := List.mem_map.mp h
    exact ⟨s, x, rfl, hs, mem_spread.mp hx⟩
  · rintro ⟨s, x, rfl, hs, hx⟩
    exact ⟨s, hs, List.mem_map.mpr ⟨x, mem_spread.mpr hx, rfl⟩⟩
theorem snoc_ind {α : Type} {P : List α → Prop} (h0 : P []) (h1 : ∀ l x, P l → P (l ++ [x])) (l : List α) : P l := by
  have key : ∀ (n : Nat) (l : List α), l.length = n → P l := by
    intro n
    induction n with
    | zero =>
      intro l hl
      rw [List.length_eq_zero_iff.mp hl]
      exact h0
    | succ n ih =>
      intro l hl
      have hne : l ≠ [] := fun e => by rw [e] at hl; simp at hl
      rw [← List.dropLast_concat_getLast hne]
      exact h1 _ _ (ih _ (by rw [List.length_dropLast]; omega))
  exact key l.length l rfl
theorem mem_rowsZ {zs : List (Int × Int)} : ∀ {r : List Int}, r ∈ rowsZ zs ↔ InZ zs r := by
  induction zs using snoc_ind with
  | h0 =>
    intro r
    show r ∈ [[]] ↔ _
    rw [List.mem_singleton]
    constructor
    · rintro rfl
      exact True.intro
    · intro h
      cases r with
      | nil => rfl
      | cons _ _ => exact h.elim
  | h1 l z ih =>
    intro r
    rw [rowsZ_snoc, mem_grow, inZ_snoc]
    constructor
    · rintro ⟨s, x, e, hs, hx⟩
      exact ⟨s, x, e, ih.mp hs, hx⟩
    · rintro ⟨s, x, e, hs, hx⟩
      exact ⟨s, x, e, ih.mpr hs, hx⟩
theorem nodup_grow {rs : List (List Int)} {l m : Int} (h : rs.Nodup) : (grow rs l m).Nodup := by
  unfold grow
  induction rs with
  | nil => exact List.nodup_nil
  | cons r rs ih =>
    rw [List.flatMap_cons, List.nodup_append]
    obtain ⟨h1, h2⟩ := List.nodup_cons.mp h
    refine ⟨List.pairwise_map.mpr (nodup_spread.imp fun hab e => hab (by simpa using e)), ih h2, fun a ha b hb e => ?_⟩
    · subst e
      obtain ⟨x, _, rfl⟩ := List.mem_map.mp ha
      obtain ⟨s, hs, hb'⟩ := List.mem_flatMap.mp hb
      obtain ⟨y, _, e⟩ := List.mem_map.mp hb'
      have hl : s = r := by
        have e1 := congrArg List.dropLast e
        simpa using e1
      subst hl
      exact h1 hs
theorem nodup_rowsZ {zs : List (Int × Int)} : (rowsZ zs).Nodup := by
  induction zs using snoc_ind with
  | h0 => exact List.nodup_cons.mpr ⟨by simp, List.nodup_nil⟩
  | h1 l z ih => rw [rowsZ_snoc]; exact nodup_grow ih
theorem grow_len {l m : Int} : ∀ rs : List (List Int), (grow rs l m).length = rs.length * (m + 1 - l).toNat
  | [] => by simp [grow]
  | r :: rs => by
    have ih := grow_len (l := l) (m := m) rs
    unfold grow at ih ⊢
    rw [List.flatMap_cons, List.length_append, ih, List.length_map, List.length_cons]
    unfold spread
    rw [List.length_map, List.length_range, Nat.add_mul]
    omega
def wides (zs : List (Int × Int)) : Nat := zs.foldl (fun n z => n * (z.2 + 1 - z.1).toNat) 1
theorem rowsZ_len {zs : List (Int × Int)} : (rowsZ zs).length = wides zs := by
  induction zs using snoc_ind with
  | h0 => rfl
  | h1 l z ih =>
    rw [rowsZ_snoc, grow_len, ih]
    unfold wides
    rw [List.foldl_append]
    rfl
/-! ### nowhere above -/
def below : List Int → List Int → Bool
  | x :: xs, y :: ys => decide (x ≤ y) && below xs ys
  | _, _ => true
theorem below_get : ∀ {r s : List Int}, r.length = s.length → (below r s = true ↔ ∀ k, k < r.length → r.getD k 0 ≤ s.getD k 0)
  | [], [], _ => ⟨fun _ k hk => absurd hk (Nat.not_lt_zero k), fun _ => rfl⟩
  | x :: xs, y :: ys, h => by
    have ih := below_get (r := xs) (s := ys) (by simpa using h)
    unfold below
    rw [Bool.and_eq_true, decide_eq_true_eq, ih]
    constructor
    · rintro ⟨h1, h2⟩ k hk
      cases k with
      | zero => exact h1
      | succ k => exact h2 k (by simpa using hk)
    · intro h
      refine ⟨h 0 (by simp), fun k hk => ?_⟩
      exact h (k + 1) (by simpa using hk)
  | [], _ :: _, h => by simp at h
  | _ :: _, [], h => by simp at h
theorem below_refl (r : List Int) : below r r = true := (below_get rfl).mpr fun _ _ => Int.le_refl _
theorem below_trans {r s t : List Int} (h1 : r.length = s.length) (h2 : s.length = t.length) (a : below r s = true) (b : below s t = true) : below r t = true := by
  rw [below_get (h1.trans h2)]
  intro k hk
  exact Int.le_trans ((below_get h1).mp a k hk) ((below_get h2).mp b k (by omega))
theorem below_anti : ∀ {r s : List Int}, r.length = s.length → below r s = true → below s r = true → r = s
  | [], [], _, _, _ => rfl
  | x :: xs, y :: ys, h, a, b => by
    unfold below at a b
    rw [Bool.and_eq_true, decide_eq_true_eq] at a b
    rw [below_anti (by simpa using h) a.2 b.2, show x = y by omega]
  | [], _ :: _, h, _, _ => by simp at h
  | _ :: _, [], h, _, _ => by simp at h
theorem below_sum : ∀ {r s : List Int}, r.length = s.length → below r s = true → r ≠ s → r.sum < s.sum
  | [], [], _, _, h => absurd rfl h
  | x :: xs, y :: ys, hl, a, h => by
    unfold below at a
    rw [Bool.and_eq_true, decide_eq_true_eq] at a
    rw [List.sum_cons, List.sum_cons]
    by_cases e : xs = ys
    · subst e
      have : x ≠ y := fun e => h (by rw [e])
      omega
    · have := below_sum (by simpa using hl) a.2 e
      omega
  | [], _ :: _, h, _, _ => by simp at h
  | _ :: _, [], h, _, _ => by simp at h
/-- the greatest rows of a list -/
def tops (rs : List (List Int)) : List (List Int) := rs.filter fun r => !rs.any fun o => !decide (r = o) && below r o
theorem mem_tops {rs : List (List Int)} {r : List Int} : r ∈ tops rs ↔ r ∈ rs ∧ ∀ o ∈ rs, below r o = true → r = o := by
  unfold tops
  rw [List.mem_filter]
  refine and_congr_right fun hr => ?_
  rw [Bool.not_eq_true', List.any_eq_false]
  constructor
  · intro h o ho hb
    have := h o ho
    rw [hb, Bool.and_true] at this
    simpa using this
  · intro h o ho
    by_cases hb : below r o = true
    · rw [h o ho hb]; simp
    · simp [hb]
/-- each row lies within a greatest one -/
theorem tops_above {rs : List (List Int)} {n : Nat} (hl : ∀ r ∈ rs, r.length = n) : ∀ r ∈ rs, ∃ o ∈ tops rs, below r o = true := by
  have fin : ∃ B : Int, ∀ r ∈ rs, r.sum ≤ B := by
    clear hl
    induction rs with
    | nil => exact ⟨0, fun r hr => absurd hr (by simp)⟩
    | cons a rs ih =>
      obtain ⟨B, hB⟩ := ih
      refine ⟨max a.sum B, fun r hr => ?_⟩
      rcases List.mem_cons.mp hr with e | hr
      · subst e; omega
      · have := hB r hr; omega
  obtain ⟨B, hB⟩ := fin
  have key : ∀ (k : Nat) (r : List Int), r ∈ rs → (B - r.sum).toNat ≤ k → ∃ o ∈ tops rs, below r o = true := by
    intro k
    induction k with
    | zero =>
      intro r hr hk
      refine ⟨r, mem_tops.mpr ⟨hr, fun o ho hb => ?_⟩, below_refl r⟩
      have h1 := hB o ho
      have h2 := hB r hr
      refine Classical.byContradiction fun hne => ?_
      have := below_sum ((hl r hr).trans (hl o ho).symm) hb hne
      omega
    | succ k ih =>
      intro r hr hk
      by_cases ht : r ∈ tops rs
      · exact ⟨r, ht, below_refl r⟩
      · have : ∃ o ∈ rs, below r o = true ∧ r ≠ o := by
          refine Classical.byContradiction fun hno => ht (mem_tops.mpr ⟨hr, fun o ho hb => ?_⟩)
          exact Classical.byContradiction fun hne => hno ⟨o, ho, hb, hne⟩
        obtain ⟨o, ho, hb, hne⟩ := this
        have hlt := below_sum ((hl r hr).trans (hl o ho).symm) hb hne
        have h1 := hB o ho
        obtain ⟨t, ht, hbt⟩ := ih o ho (by omega)
        exact ⟨t, ht, below_trans ((hl r hr).trans (hl o ho).symm) ((hl o ho).trans (hl t (mem_tops.mp ht).1).symm) hb hbt⟩
  exact fun r hr => key _ r hr (Nat.le_refl _)
end Lk
/-! the text by places, what its top leaves, what stands in the heap -/
namespace Lk
open PySem PySem.Spec PyProof.Rows L2
open Evl (Ex RetV RetL)
/-! ### the text by places -/
def top (i : Nat) : Stmt := PySem.Challenge.pw_linklines_k70_whole_bounds.main.body.getD i (.Pass ⟨0, 0, 0, 0⟩)
abbrev s_is_integer : Stmt := top 2
abbrev s_is_natural : Stmt := top 3
abbrev s_is_list : Stmt := top 4
abbrev s_is_word : Stmt := top 5
abbrev s_is_part : Stmt := top 18
abbrev s_Plan : Stmt := inClass (top 19) 0
abbrev s_checked_sizes : Stmt := top 20
abbrev s_lifted : Stmt := top 21
abbrev s_lowest : Stmt := top 22
abbrev s_number_of : Stmt := top 24
abbrev s_checked_two : Stmt := top 25
abbrev s_checked_far : Stmt := top 26
abbrev s_leasts : Stmt := top 27
abbrev s_mosts : Stmt := top 28
abbrev s_rests_at : Stmt := top 29
abbrev s_address_behind : Stmt := top 30
abbrev s_reach_at_most : Stmt := top 31
abbrev s_bounds_hold : Stmt := top 32
abbrev s_rows_between : Stmt := top 33
abbrev s_is_within : Stmt := top 34
abbrev s_greatest_rows : Stmt := top 35
abbrev s_greatest_bounds : Stmt := top 36
abbrev s_law_source : Stmt := top 38
abbrev s_law_draw : Stmt := top 39
abbrev s_law_pick : Stmt := top 40
abbrev s_law_mixed : Stmt := top 41
abbrev s_law_loose : Stmt := top 42
abbrev s_law_same : Stmt := top 43
abbrev s_law_parts : Stmt := top 44
abbrev s_law_lowest : Stmt := top 45
abbrev s_law_addresses : Stmt := top 46
abbrev s_law_rows : Stmt := top 47
abbrev s_law_all_sizes : Stmt := top 48
abbrev s_law_few : Stmt := top 49
abbrev s_law_is_below : Stmt := top 50
abbrev s_law_reach : Stmt := top 51
abbrev s_law : Stmt := top 52
/-- a def of the top -/
abbrev FnP (K : PySem.W.Frag) (x : Str) (st : Stmt) (f : Addr) (fd : FuncData) : Prop := FunD K x x (defArgs st) (defBody st) (defScope st) [] [] f fd
structure Dn (K : PySem.W.Frag) (mg : Str → Option Value) (x : Str) (st : Stmt) : Prop where
  ex : ∃ f fd, FnP K x st f fd ∧ mg x = some (.ref f)
/-- a callee -/
structure Cal (P : Program) (w : World) (K : PySem.W.Frag) (mg : Str → Option Value) (base : Heap) (k : Nat) (x : Str) (sp : Sp) : Prop where
  ex : ∃ (f : Addr) (fd : FuncData) (ps : List Str), FnOk P w K mg base CX0 k f fd ps sp ∧ mg x = some (.ref f) ∧ PySem.W.keepIn K (.ref f) = true ∧ Binds K fd ps []
section
variable {P : Program} {w : World} {K : PySem.W.Frag} {mg : Str → Option Value} {base : Heap}
theorem cal_mk {x : Str} {st : Stmt} {N ps : List Str} {k : Nat} {sp : Sp} (D : Dn K mg x st) (S : FnScope N ps (defScope st))
    (h : ∀ (kV doc pm : Value) (an : Option Addr) (cdv ct : Value) (us : List Value), us.length = ps.length → bindArgs (PySem.W.fnOf x x (defArgs st) (defBody st) (defScope st) .none kV doc pm an cdv ct) ⟨us, []⟩ = pure (ps.zip us))
    (len : ∀ vs H Q E, sp vs H Q E → vs.length = ps.length)
    (hbody : ∀ (f : Addr) (cdv : Value) (A : Around) (outer : List Env) (s : Shared) (H : Hp) (vs : List V) (Q : VK) (E : XK), Room k (A.deeper (envOfC x (defScope st) s.heap.objs.size f cdv)) → sp vs H Q E →
      ∃ t, PSs (cxOf CX0 P w K mg base N x (defScope st) f cdv A outer s H E).nox (defBody st) t ∧ t { nx := fun _ H' => Q .non H', rt := Q } (start N vs) H) : Cal P w K mg base (k + 1) x sp := by
  obtain ⟨f, fd, F, hm⟩ := D.ex
  refine ⟨f, fd, ps, F.ok S len fun cdv A outer s H vs Q E hr hsp => ?_, hm, F.kp, F.bindsN h⟩
  obtain ⟨t, ht, q⟩ := hbody f cdv A outer s H vs Q E hr hsp
  exact ⟨t, ht.nox, q⟩
theorem Cal.imp {k : Nat} {x : Str} {sp sp' : Sp} (c : Cal P w K mg base k x sp) (h : ∀ vs H Q E, sp' vs H Q E → sp vs H Q E) : Cal P w K mg base k x sp' := by
  obtain ⟨f, fd, ps, F, r⟩ := c.ex
  exact ⟨f, fd, ps, F.imp h, r⟩
end
section
variable {X : Cx} {k j : Nat} {x : Str} {sp : Sp} {p pos : Pos} {e : Expr} {es : List Expr} {t : TA} {v : V}
theorem pe_c (c : Cal X.prog X.w X.K X.mg X.base k x sp) (hr : Room j X.A) (hk : k ≤ j) (hg : Gl X x) (ha : PA X (e :: es) t)
    (hdb : (x == ("__debug__" : Str)) = false := by decide) (he : starEach (e :: es) X.env = (false, eval e X.env) :: starEach es X.env := by rfl) (hpl : (backTo pos (starEach es X.env)).any (·.1) = false := by rfl) :
    PE X (.Call (.Name x p) (e :: es) [] pos) (tCall sp [] E0 t) := by
  obtain ⟨f, fd, ps, F, hm, kp, b⟩ := c.ex
  exact pe_call F (hr.mono hk) hg hm kp b .nil pass0 ha hdb he hpl
theorem pe_gc (hg : Gl X x) (h : ∃ u, X.mg x = some u ∧ RelV v u) (hd : (x == ("__debug__" : Str)) = false := by decide) : PE X (.Name x pos) (tC v) := by
  obtain ⟨u, hm, r⟩ := h
  exact pe_glob hg hm r hd
end
section
variable {X : Cx} {e : Expr} {es : List Expr} {te tl : TE} {t : TA} {p : Pos} {tg l : Expr}
theorem pa_starK {K : PySem.W.Frag} (hK : X.K = K) (he : PE X e te) (hr : PA X es t) (hs : starEach (.Starred e p :: es) X.env = (true, eval e X.env) :: starEach es X.env := by rfl) : PA X (.Starred e p :: es) (StX.tStar K te t) := by
  subst hK
  exact StX.pa_star he hr hs
theorem pi_listK {K : PySem.W.Frag} (hK : X.K = K) (hl : PE X l tl) : PI X tg l (iList K tl) := by
  subst hK
  exact pi_list hl
/-- tuple(t) of a tuple: itself -/
def rTupT (K : PySem.W.Frag) : List V → Hp → VK → Prop := fun xs H Q => ∃ a ys, xs = [.ref a] ∧ SqT K H a ys ∧ Q (.ref a) H
theorem call_tupT : CallR X (.type "tuple") (rTupT X.K) := call_tupleT
end
theorem iteF_ {c A B : Prop} [Decidable c] (h : ¬ c) (hb : B) : if c then A else B := by
  rw [if_neg h]
  exact hb
theorem iteT_ {c A B : Prop} [Decidable c] (h : c) (ha : A) : if c then A else B := by
  rw [if_pos h]
  exact ha
theorem hu2_of {A : Around} {k : Nat} (hr : Room k A) : A.units + 2 < cLine := Nat.lt_of_le_of_lt (Nat.add_le_add_left (by decide : 2 ≤ 64) _) hr.units
theorem hu64_of {A : Around} {k : Nat} (hr : Room k A) : A.units + 64 < cLine := hr.units
theorem hu65_of {A : Around} {k : Nat} (hr : Room k A) : A.units + 65 < cLine := by have := hr.un; omega
/-! ### what the top leaves -/
structure Txt (K : PySem.W.Frag) (mg : Str → Option Value) (C aR aA aP : Addr) : Prop where
  len : mg "len" = none
  isinstance : mg "isinstance" = none
  all : mg "all" = none
  any : mg "any" = none
  min : mg "min" = none
  max : mg "max" = none
  sum : mg "sum" = none
  sorted : mg "sorted" = none
  int : mg "int" = none
  bool : mg "bool" = none
  str : mg "str" = none
  list : mg "list" = none
  tuple : mg "tuple" = none
  dict : mg "dict" = none
  range : mg "range" = none
  enumerate : mg "enumerate" = none
  zip : mg "zip" = none
  LETTERS : ∃ u, mg "LETTERS" = some u ∧ RelV (.str "abcdefghijklmnopqrstuvwxyz") u
  RIGHTS : ∃ u, mg "RIGHTS" = some u ∧ RelV (.ref aR) u
  ALIGNS : ∃ u, mg "ALIGNS" = some u ∧ RelV (.ref aA) u
  PAGES : ∃ u, mg "PAGES" = some u ∧ RelV (.ref aP) u
  tR : ∀ H, SqT K H aR [.str "r", .str "rw", .str "rx"]
  tA : ∀ H, SqT K H aA [.int 1, .int 2, .int 4, .int 8, .int 16, .int 32, .int 64]
  tP : ∀ H, SqT K H aP [.int 8, .int 16, .int 32, .int 64]
  cl : Cls K C
  nP : NoAttr K C "kept_page"
  nQ : NoAttr K C "kept_parts"
  Plan : mg "Plan" = some (.ref C)
/-! ### what stands in the heap -/
/-- tuples and instances stand as they stood -/
def Imm : HO → Prop
  | .tup _ => True
  | .ins _ _ _ => True
  | _ => False
def Mo (H H' : Hp) : Prop := ∀ a o, H a = some o → Imm o → H' a = some o
theorem Mo.refl (H : Hp) : Mo H H := fun _ _ h _ => h
theorem Mo.trans {H H1 H2 : Hp} (a : Mo H H1) (b : Mo H1 H2) : Mo H H2 := fun x o h i => b x o (a x o h i) i
theorem mo_ex {H H' : Hp} (e : Ex H H') : Mo H H' := fun a o h _ => e a o h
theorem mo_new {H : Hp} {p : Addr} {o : HO} (h : H p = none) : Mo H (upd H p o) := mo_ex (Evl.Ex.new h)
theorem mo_lst {H : Hp} {p : Addr} {o : HO} {xs : List V} (h : H p = some (.lst xs)) : Mo H (upd H p o) := fun a u e i => by
  have ne : a ≠ p := fun q => by
    rw [q, h] at e
    cases e
    exact i
  rw [upd_ne ne]
  exact e
theorem mo_dK {H : Hp} {p : Addr} {o : HO} {xs : List (L2.Key × V)} (h : H p = some (.dK xs)) : Mo H (upd H p o) := fun a u e i => by
  have ne : a ≠ p := fun q => by
    rw [q, h] at e
    cases e
    exact i
  rw [upd_ne ne]
  exact e
theorem mo_frz {H : Hp} {p : Addr} {o : HO} {ob : Obj} {u : HO} (h : H p = some (.frz ob u)) : Mo H (upd H p o) := fun a u e i => by
  have ne : a ≠ p := fun q => by
    rw [q, h] at e
    cases e
    exact i
  rw [upd_ne ne]
  exact e
/-- a tuple of ints -/
def RowV (H : Hp) (v : V) (r : List Int) : Prop := ∃ a, v = .ref a ∧ H a = some (.tup (r.map V.int))
/-- a list or a tuple of ints -/
def IntsV (H : Hp) (v : V) (r : List Int) : Prop := ∃ a, v = .ref a ∧ (H a = some (.lst (r.map V.int)) ∨ H a = some (.tup (r.map V.int)))
structure Part where
  word : Str
  rights : Str
  align : Int
  least : Int
  most : Int
  zeros : Bool
instance : Inhabited Part := ⟨⟨"", "", 1, 0, 0, false⟩⟩
def Part.vals (p : Part) : List V := [.str p.word, .str p.rights, .int p.align, .int p.least, .int p.most, .bl p.zeros]
def PartV (H : Hp) (v : V) (p : Part) : Prop := ∃ a, v = .ref a ∧ H a = some (.tup p.vals)
def planF (pg : Int) (t : Addr) : List (Str × V) := putF "kept_parts" (.ref t) (putF "kept_page" (.int pg) [])
def PlanV (C : Addr) (H : Hp) (v : V) (pg : Int) (ps : List Part) : Prop := ∃ a dx t xs, v = .ref a ∧ H a = some (.ins C dx (planF pg t)) ∧ H t = some (.tup xs) ∧ Paired (PartV H) xs ps
theorem RowV.mono {H H' : Hp} {v : V} {r : List Int} (e : Mo H H') (h : RowV H v r) : RowV H' v r := let ⟨a, ev, ha⟩ := h; ⟨a, ev, e a _ ha trivial⟩
theorem RowV.ints {H : Hp} {v : V} {r : List Int} (h : RowV H v r) : IntsV H v r := let ⟨a, ev, ha⟩ := h; ⟨a, ev, .inr ha⟩
theorem IntsV.mono {H H' : Hp} {v : V} {r : List Int} (e : Ex H H') (h : IntsV H v r) : IntsV H' v r := let ⟨a, ev, ha⟩ := h; ⟨a, ev, ha.imp (e a _) (e a _)⟩
theorem PartV.mono {H H' : Hp} {v : V} {p : Part} (e : Mo H H') (h : PartV H v p) : PartV H' v p := let ⟨a, ev, ha⟩ := h; ⟨a, ev, e a _ ha trivial⟩
theorem pd_mono {α : Type} {R R' : V → α → Prop} {xs : List V} {ys : List α} (h : Paired R xs ys) (f : ∀ v y, R v y → R' v y) : Paired R' xs ys := L2.Paired.mapP h f
theorem PlanV.mono {C : Addr} {H H' : Hp} {v : V} {pg : Int} {ps : List Part} (e : Mo H H') (h : PlanV C H v pg ps) : PlanV C H' v pg ps :=
  let ⟨a, dx, t, xs, ev, h1, h2, h3⟩ := h; ⟨a, dx, t, xs, ev, e _ _ h1 trivial, e _ _ h2 trivial, pd_mono h3 fun _ _ q => q.mono e⟩
theorem pd_get {α β : Type} {R : α → β → Prop} : ∀ {xs : List α} {ys : List β} {i : Nat} {x : α}, Paired R xs ys → xs[i]? = some x → ∃ y, ys[i]? = some y ∧ R x y
  | _, _, _, _, .nil, e => by simp at e
  | _, _, 0, _, .cons r _, e => ⟨_, rfl, by have e' := Option.some.inj e; subst e'; exact r⟩
  | _, _, i + 1, _, .cons _ t, e => pd_get (i := i) t e
theorem pd_get' {α β : Type} {R : α → β → Prop} : ∀ {xs : List α} {ys : List β} {i : Nat} {y : β}, Paired R xs ys → ys[i]? = some y → ∃ x, xs[i]? = some x ∧ R x y
  | _, _, _, _, .nil, e => by simp at e
  | _, _, 0, _, .cons r _, e => ⟨_, rfl, by have e' := Option.some.inj e; subst e'; exact r⟩
  | _, _, i + 1, _, .cons _ t, e => pd_get' (i := i) t e
theorem pd_app {α β : Type} {R : α → β → Prop} : ∀ {xs xs' : List α} {ys ys' : List β}, Paired R xs ys → Paired R xs' ys' → Paired R (xs ++ xs') (ys ++ ys')
  | _, _, _, _, .nil, s => s
  | _, _, _, _, .cons r t, s => .cons r (pd_app t s)
theorem pd_snoc {α β : Type} {R : α → β → Prop} {xs : List α} {ys : List β} {x : α} {y : β} (h : Paired R xs ys) (r : R x y) : Paired R (xs ++ [x]) (ys ++ [y]) := pd_app h (.cons r .nil)
theorem pd_len {α β : Type} {R : α → β → Prop} {xs : List α} {ys : List β} (h : Paired R xs ys) : xs.length = ys.length := Paired.length h
theorem pd_take {α β : Type} {R : α → β → Prop} : ∀ {xs : List α} {ys : List β} (n : Nat), Paired R xs ys → Paired R (xs.take n) (ys.take n)
  | _, _, 0, _ => .nil
  | _, _, _ + 1, .nil => .nil
  | _, _, n + 1, .cons r t => .cons r (pd_take n t)
/-- the plan's two attributes -/
theorem pq_ : ¬ (("kept_page" : Str) = "kept_parts") := by decide +kernel
theorem planF_page (pg : Int) (t : Addr) : (planF pg t).lookup ("kept_page" : Str) = some (.int pg) := by
  unfold planF
  rw [lookup_putF, if_neg pq_, lookup_putF, if_pos rfl]
theorem planF_parts (pg : Int) (t : Addr) : (planF pg t).lookup ("kept_parts" : Str) = some (.ref t) := by
  unfold planF
  rw [lookup_putF, if_pos rfl]
/-! ### a comprehension whose turns leave what stood: Acc i acc H, of what is made so far -/
theorem lc_pure {J : It} {n : Nat} {G : Hp → Prop} {Y : Nat → Hp → V → Hp → Prop} (w : Walk J n G Y) {g : TG} {tt : TT} {te : TE} {vs : List Nat} {σ : L2.St} {H1 : Hp} {D : Addr} {Qd : Hp → Prop} (hD : H1 D = none) (hn : n ≤ sizeLine)
    (Acc : Nat → List V → Hp → Prop) (hm : ∀ i acc H H', Mo H H' → Acc i acc H → Acc i acc H') (hG : ∀ H', Ex H1 H' → G H') (h0 : Acc 0 [] H1)
    (hs : ∀ i x H' H'' acc (Kt : V → Hp → Prop) (K0 : Hp → Prop), i < n → Ex H1 H' → Acc i acc H' → Y i H' x H'' → (∀ y H4, Ex H' H4 → Acc (i + 1) (acc ++ [y]) H4 → Kt y H4) → (∀ H3, Ex H' H3 → Acc (i + 1) acc H3 → K0 H3) →
      g x (wipe σ vs) H'' fun σ2 H2 => wipe σ2 vs = wipe σ vs ∧ tt σ2 H2 fun b H3 => if b = true then te σ2 H3 Kt else K0 H3)
    (hd : ∀ acc H', Ex H1 H' → H' D = some (.lst acc) → Acc n acc H' → Qd H') :
    ∃ W : Nat → Nat → Hp → Prop, (∃ m, W 0 m (upd H1 D (.lst []))) ∧ ∀ i m H, W i m H →
      (J.stop i H ∧ Qd H) ∨ (J.go i H ∧ ∃ Nx : Hp → Prop, (∀ H', Nx H' → ∃ m', m' < m ∧ W (i + 1) m' H') ∧ ∀ x H', J.yld i H x H' → g x (wipe σ vs) H' fun σ2 H2 => wipe σ2 vs = wipe σ vs ∧ tt σ2 H2 fun b H3 =>
        if b = true then te σ2 H3 fun y H4 => ∃ acc, H4 D = some (.lst acc) ∧ acc.length < sizeLine ∧ Nx (upd H4 D (.lst (acc ++ [y]))) else Nx H3) := by
  refine lc_it w (fun i H' => Ex H1 H' ∧ ∃ acc, H' D = some (.lst acc) ∧ acc.length ≤ i ∧ Acc i acc H') ⟨Evl.Ex.new hD, [], upd_same, Nat.zero_le _, hm _ _ _ _ (mo_new hD) h0⟩ (fun i H' _ p => hG H' p.1) ?_ (fun H' p => ?_)
  · rintro i x H' H'' hi ⟨e1, acc, hacc, hlen, ha⟩ y
    refine hs i x H' H'' acc _ _ hi e1 ha y (fun z H4 e4 a4 => ?_) (fun H3 e3 a3 => ?_)
    · have hD4 := e4 _ _ hacc
      refine ⟨acc, hD4, by omega, Evl.Ex.mut (e1.trans e4) hD, _, upd_same, ?_, hm _ _ _ _ (mo_lst hD4) a4⟩
      rw [List.length_append, List.length_singleton]
      omega
    · exact ⟨e1.trans e3, acc, e3 _ _ hacc, Nat.le_succ_of_le hlen, a3⟩
  · obtain ⟨e1, acc, hacc, _, ha⟩ := p
    exact hd acc H' e1 hacc ha
/-- .. without a test -/
theorem yes_ {te : TE} {σ : L2.St} {H : Hp} {Kt : V → Hp → Prop} {K0 : Hp → Prop} (h : te σ H Kt) : tYes σ H fun b H3 => if b = true then te σ H3 Kt else K0 H3 := by
  show (if true = true then te σ H Kt else K0 H)
  rw [if_pos rfl]
  exact h
/-- each turn gives a value that is known ahead -/
theorem take_snoc {α β : Type} {xs : List α} {f : α → β} {i : Nat} {x : α} (h : xs[i]? = some x) : (xs.take (i + 1)).map f = (xs.take i).map f ++ [f x] := by
  rw [List.take_add_one, h, List.map_append]
  rfl
end Lk
namespace Lk
open PySem PySem.Spec PyProof.Rows L2
open Evl (Ex RetV RetL)
section
variable {P : Program} {w : World} {K : PySem.W.Frag} {mg : Str → Option Value} {base : Heap} {C aR aA aP : Addr}
/-! ### is_integer, is_natural, is_list -/
def sp_is_integer : Sp := fun vs H Q _ => ∃ i : Int, vs = [.int i] ∧ RetV (.bl true) H Q
theorem sc_is_integer : FnScope ["thing"] ["thing"] (defScope s_is_integer) := ⟨rfl, rfl, rfl, by decide +kernel, rfl, by decide +kernel, by decide +kernel⟩
theorem ok_is_integer (T : Txt K mg C aR aA aP) (D : Dn K mg "is_integer" s_is_integer) : Cal P w K mg base 1 "is_integer" sp_is_integer := by
  have nd := sc_is_integer.nd
  refine cal_mk D sc_is_integer (fun _ _ _ _ _ _ us hl => match us, hl with | [_], _ => rfl) (fun vs H Q E h => ?_) (fun f cdv A outer s H vs Q E hr h => ?_)
  · obtain ⟨i, rfl, _⟩ := h
    rfl
  · obtain ⟨i, rfl, k⟩ := h
    refine ⟨_, (pss_one
    (ps_ret (pe_and (pe_callB call_isi (by rfl) T.isinstance (by decide +kernel) (pa_cons (pv 0) (pa_cons (pe_bltn (v := .ty "int") (by rfl) T.int (by decide +kernel) rfl) pa_nil))) (pe_one (pe_not (pe_callB call_isi (by rfl) T.isinstance (by decide +kernel) (pa_cons (pv 0) (pa_cons (pe_bltn (v := .ty "bool") (by rfl) T.bool (by decide +kernel) rfl) pa_nil)))))))), ?_⟩
    refine ⟨_, rfl, _, _, _, _, true, rfl, .ty _, .base (.int i), kit_ty (by decide +kernel), true, rfl, iteT ?_⟩
    refine ⟨_, rfl, _, _, _, _, false, rfl, .ty _, .base (.int i), kit_ty (by decide +kernel), false, rfl, ?_⟩
    exact k _ (Evl.Ex.refl _)
def sp_is_natural : Sp := fun vs H Q _ => ∃ i : Int, vs = [.int i] ∧ 0 ≤ i ∧ RetV (.bl true) H Q
theorem sc_is_natural : FnScope ["thing"] ["thing"] (defScope s_is_natural) := ⟨rfl, rfl, rfl, by decide +kernel, rfl, by decide +kernel, by decide +kernel⟩
theorem ok_is_natural (D : Dn K mg "is_natural" s_is_natural) (c_is_integer : Cal P w K mg base 1 "is_integer" sp_is_integer) : Cal P w K mg base 2 "is_natural" sp_is_natural := by
  have nd := sc_is_natural.nd
  refine cal_mk D sc_is_natural (fun _ _ _ _ _ _ us hl => match us, hl with | [_], _ => rfl) (fun vs H Q E h => ?_) (fun f cdv A outer s H vs Q E hr h => ?_)
  · obtain ⟨i, rfl, _⟩ := h
    rfl
  · obtain ⟨i, rfl, h0, k⟩ := h
    refine ⟨_, (pss_one
    (ps_ret (pe_and (pe_c c_is_integer hr (by decide) rfl (pa_cons (pv 0) pa_nil)) (pe_one (pe_cmpR op_ge (pv 0) pe_int (nomark _)))))), ?_⟩
    refine ⟨_, rfl, i, rfl, fun H1 e1 => ⟨true, rfl, iteT ⟨_, rfl, _, _, rfl, rfl, ?_⟩⟩⟩
    show Q (.bl (decide ((0 : Int) ≤ i))) H1
    rw [decide_eq_true h0]
    exact k _ e1
def sp_is_list : Sp := fun vs H Q _ => ∃ (a : Addr) (xs : List V), vs = [.ref a] ∧ (H a = some (.lst xs) ∨ H a = some (.tup xs)) ∧ RetV (.bl true) H Q
theorem sc_is_list : FnScope ["thing"] ["thing"] (defScope s_is_list) := ⟨rfl, rfl, rfl, by decide +kernel, rfl, by decide +kernel, by decide +kernel⟩
theorem ok_is_list (T : Txt K mg C aR aA aP) (D : Dn K mg "is_list" s_is_list) : Cal P w K mg base 1 "is_list" sp_is_list := by
  have nd := sc_is_list.nd
  refine cal_mk D sc_is_list (fun _ _ _ _ _ _ us hl => match us, hl with | [_], _ => rfl) (fun vs H Q E h => ?_) (fun f cdv A outer s H vs Q E hr h => ?_)
  · obtain ⟨a, xs, rfl, _⟩ := h
    rfl
  · obtain ⟨a, xs, rfl, h0, k⟩ := h
    refine ⟨_, (pss_one
    (ps_ret (pe_callB call_isiT (by rfl) T.isinstance (by decide +kernel) (pa_cons (pv 0) (pa_cons (pe_tup (pa_cons (pe_bltn (v := .ty "list") (by rfl) T.list (by decide +kernel) rfl) (pa_cons (pe_bltn (v := .ty "tuple") (by rfl) T.tuple (by decide +kernel) rfl) pa_nil))) pa_nil))))), ?_⟩
    refine ⟨_, rfl, by show 2 ≤ sizeLine; decide, fun p hp => ?_⟩
    rcases h0 with h0 | h0
    · refine ⟨_, p, _, _, _, true, rfl, upd_same, .cons (.ty _) (.cons (.ty _) .nil), .base (.lst (by rw [upd_ne (ne_of_none h0 hp)]; exact h0)), kitAny_cons (kit_ty (r := true) (by decide +kernel)) (fun q => nomatch q) (fun _ => rfl), k _ (Evl.Ex.new hp)⟩
    · refine ⟨_, p, _, _, _, true, rfl, upd_same, .cons (.ty _) (.cons (.ty _) .nil), .base (.tup (by rw [upd_ne (ne_of_none h0 hp)]; exact h0)), kitAny_cons (kit_ty (r := false) (by decide +kernel)) (fun _ => kitAny_cons (kit_ty (r := true) (by decide +kernel)) (fun q => nomatch q) (fun _ => rfl)) (fun q => nomatch q), k _ (Evl.Ex.new hp)⟩
/-! ### is_word -/
def WordOk (z : Str) : Prop := 1 ≤ z.length ∧ z.length ≤ 8 ∧ ∀ (i c : Nat), z.cps[i]? = some c → c ∈ ("abcdefghijklmnopqrstuvwxyz" : Str).cps.toList
def sp_is_word : Sp := fun vs H Q _ => ∃ z : Str, vs = [.str z] ∧ WordOk z ∧ RetV (.bl true) H Q
theorem sc_is_word : FnScope ["thing", "sign"] ["thing"] (defScope s_is_word) := ⟨rfl, rfl, rfl, by decide +kernel, rfl, by decide +kernel, by decide +kernel⟩
theorem ok_is_word (T : Txt K mg C aR aA aP) (D : Dn K mg "is_word" s_is_word) : Cal P w K mg base 1 "is_word" sp_is_word := by
  have nd := sc_is_word.nd
  refine cal_mk D sc_is_word (fun _ _ _ _ _ _ us hl => match us, hl with | [_], _ => rfl) (fun vs H Q E h => ?_) (fun f cdv A outer s H vs Q E hr h => ?_)
  · obtain ⟨z, rfl, _⟩ := h
    rfl
  · obtain ⟨z, rfl, ⟨hz1, hz2, hz3⟩, k⟩ := h
    refine ⟨_, (pss_one
    (ps_ret (pe_and (pe_callB call_isi (by rfl) T.isinstance (by decide +kernel) (pa_cons (pv 0) (pa_cons (pe_bltn (v := .ty "str") (by rfl) T.str (by decide +kernel) rfl) pa_nil))) (pe_and (pe_chain op_le op_le pe_int (pe_callB call_len_str (by rfl) T.len PySem.boot_len (pa_cons (pv 0) pa_nil)) pe_int) (pe_one (pe_callB (cr_all rfl) (by rfl) T.all (by decide +kernel) (pa_cons (pe_lc (own := [("sign", 1)]) rfl nd (pi_str (pv 0)) (blkOk_by (N := ["thing", "sign"]) (sc := defScope s_is_word) (by decide +kernel)) (fun _ _ _ _ _ => (pg_name (i := 1) nd rfl (Or.inl rfl))) (fun _ _ _ _ _ => pts_nil) (fun _ _ _ _ _ => (pe_cmpR op_in_sign (pv 1) (pe_gc rfl T.LETTERS) (by rfl)))) pa_nil))))))), ?_⟩
    refine ⟨_, rfl, _, _, _, _, true, rfl, .ty _, .base (.str z), kit_ty (by decide +kernel), true, rfl, iteT ?_⟩
    have hln : z.length ≤ sizeLine := Nat.le_trans hz2 (by decide)
    refine ⟨_, rfl, _, rfl, hln, _, _, rfl, rfl, decide ((1 : Int) ≤ (z.length : Int)), rfl, ?_⟩
    rw [decide_eq_true (by omega)]
    refine iteT ⟨_, _, rfl, rfl, ?_⟩
    refine ⟨true, ?_, iteT ?_⟩
    · show V.bl (decide ((z.length : Int) ≤ 8)) = V.bl true
      rw [decide_eq_true (by omega)]
    refine ⟨_, rfl, z, rfl, fun p hp => ?_⟩
    have hsz : z.cps.size ≤ 8 := hz2
    refine lc_pure walk_str hp (Nat.le_trans hsz (by decide)) (fun i acc _ => acc = (List.replicate i true).map V.bl) (fun _ _ _ _ _ q => q) (fun _ _ => trivial) rfl ?_ ?_
    · rintro i x H' H'' acc Kt K0 hi e1 ha ⟨rfl, c, hc, rfl⟩ k1 _
      refine ⟨rfl, yes_ ⟨_, rfl, c, _, rfl, rfl, ?_⟩⟩
      rw [decide_eq_true (hz3 i c hc)]
      refine k1 _ _ (Evl.Ex.refl _) ?_
      rw [ha, List.replicate_succ', List.map_append]
      rfl
    · intro acc H' e1 hacc ha
      refine ⟨p, List.replicate z.cps.size true, rfl, SqL.of (by rw [hacc, ha]), ?_⟩
      rw [show (List.replicate z.cps.size true).all id = true by simp]
      exact k _ e1
/-! ### lifted, lowest -/
def sp_lifted : Sp := fun vs H Q _ => ∃ x s : Int, vs = [.int x, .int s, .int 0] ∧ 0 < s ∧ RetV (.int (lift x s)) H Q
theorem sc_lifted : FnScope ["place", "step", "rest"] ["place", "step", "rest"] (defScope s_lifted) := ⟨rfl, rfl, rfl, by decide +kernel, rfl, by decide +kernel, by decide +kernel⟩
theorem ok_lifted (D : Dn K mg "lifted" s_lifted) : Cal P w K mg base 1 "lifted" sp_lifted := by
  have nd := sc_lifted.nd
  refine cal_mk D sc_lifted (fun _ _ _ _ _ _ us hl => match us, hl with | [_, _, _], _ => rfl) (fun vs H Q E h => ?_) (fun f cdv A outer s H vs Q E hr h => ?_)
  · obtain ⟨x, s, rfl, _⟩ := h
    rfl
  · obtain ⟨x, s, rfl, hs, k⟩ := h
    refine ⟨_, (pss_one
    (ps_ret (pe_op op_add (pv 0) (pe_op op_mod (pe_op op_sub (pv 2) (pv 0)) (pv 1))))), ?_⟩
    exact ⟨_, rfl, _, rfl, _, rfl, _, _, rfl, rfl, _, rfl, _, _, rfl, rfl, hs, _, _, rfl, rfl, k _ (Evl.Ex.refl _)⟩
end
end Lk
namespace Lk
open PySem PySem.Spec PyProof.Rows L2
open Evl (Ex RetV RetL)
/-! ### the parts of a plan -/
def stp (pg : Int) (ps : List Part) (k : Nat) : Int := if 0 < k ∧ (ps.getD k default).rights ≠ (ps.getD (k - 1) default).rights then pg else (ps.getD k default).align
theorem part_at {H : Hp} {xs : List V} {ps : List Part} (hP : Paired (PartV H) xs ps) {k : Nat} (hk : k < ps.length) : ∃ b, xs[k]? = some (.ref b) ∧ H b = some (.tup (ps.getD k default).vals) := by
  have e : ps[k]? = some (ps.getD k default) := by
    rw [List.getD_eq_getElem?_getD, List.getElem?_eq_getElem hk]
    rfl
  obtain ⟨x, hx, b, rfl, hb⟩ := pd_get' hP e
  exact ⟨b, hx, hb⟩
section
variable {P : Program} {w : World} {K : PySem.W.Frag} {mg : Str → Option Value} {base : Heap} {C aR aA aP : Addr}
/-! ### lowest -/
def sp_lowest (C : Addr) : Sp := fun vs H Q _ => ∃ (v : V) (pg : Int) (ps : List Part) (k : Nat) (x : Int), vs = [v, .int (k : Int), .int x] ∧ PlanV C H v pg ps ∧ k < ps.length ∧ 0 < stp pg ps k ∧ RetV (.int (lift x (stp pg ps k))) H Q
theorem sc_lowest : FnScope ["plan", "number", "end", "parts"] ["plan", "number", "end"] (defScope s_lowest) := ⟨rfl, rfl, rfl, by decide +kernel, rfl, by decide +kernel, by decide +kernel⟩
theorem ok_lowest (T : Txt K mg C aR aA aP) (D : Dn K mg "lowest" s_lowest) (c_lifted : Cal P w K mg base 1 "lifted" sp_lifted) : Cal P w K mg base 2 "lowest" (sp_lowest C) := by
  have nd := sc_lowest.nd
  refine cal_mk D sc_lowest (fun _ _ _ _ _ _ us hl => match us, hl with | [_, _, _], _ => rfl) (fun vs H Q E h => ?_) (fun f cdv A outer s H vs Q E hr h => ?_)
  · obtain ⟨v, pg, ps, k, x, rfl, _⟩ := h
    rfl
  · obtain ⟨v, pg, ps, k, x, rfl, ⟨a, dx, t, xs, rfl, hA, hT, hP⟩, hk, hs, kk⟩ := h
    refine ⟨_, (pss_cons
    (ps_set (i := 3) nd rfl (Or.inl rfl) (pe_fld (pv 0) rfl))
    (pss_cons
    (ps_if (PW.pt (pw_and (pt_cmpR op_gt (pv 1) pe_int (nomark _)) (pw_and1 (pt_cmpR op_ne (pe_ix ix_tup (pe_ix ix_tup (pv 3) (pv 1) (fun _ _ => rfl)) pe_int (fun _ _ => rfl)) (pe_ix ix_tup (pe_ix ix_tup (pv 3) (pe_op op_sub (pv 1) pe_int) (fun _ _ => rfl)) pe_int (fun _ _ => rfl)) (nomark _)))))
      (pss_one
      (ps_ret (pe_c c_lifted hr (by decide) rfl (pa_cons (pv 2) (pa_cons (pe_fld (pv 0) rfl) (pa_cons pe_int pa_nil))))))
      pss_nil)
    (pss_one
    (ps_ret (pe_c c_lifted hr (by decide) rfl (pa_cons (pv 2) (pa_cons (pe_ix ix_tup (pe_ix ix_tup (pv 3) (pv 1) (fun _ _ => rfl)) pe_int (fun _ _ => rfl)) (pa_cons pe_int pa_nil)))))))), ?_⟩
    refine ⟨_, rfl, a, C, dx, _, _, rfl, hA, T.cl, T.nQ, planF_parts _ _, ?_⟩
    obtain ⟨b1, hb1, hp1⟩ := part_at hP hk
    have done : ∀ z : Int, z = stp pg ps k → ∀ Q', RetV (.int (lift x z)) H Q' → sp_lifted [.int x, .int z, .int 0] H Q' E0 := fun z hz Q' q => ⟨x, z, rfl, by rw [hz]; exact hs, q⟩
    refine ⟨_, rfl, _, _, rfl, rfl, _, rfl, ite2 (fun h0 => ?_) (fun h0 => ?_)⟩
    · have h0' : (0 : Int) < (k : Int) := of_decide_eq_true h0
      have hk1 : k - 1 < ps.length := by omega
      obtain ⟨b2, hb2, hp2⟩ := part_at hP hk1
      refine ⟨_, rfl, _, rfl, t, xs, _, _, rfl, rfl, SqT.of hT, atI_nat hb1, b1, _, _, _, rfl, rfl, SqT.of hp1, rfl, _, rfl, _, rfl, _, _, rfl, rfl, t, xs, _, _, rfl, rfl, SqT.of hT, at_of (j := k - 1) (by omega) hb2, b2, _, _, _, rfl, rfl, SqT.of hp2, rfl, rfl, _, rfl, ite2 (fun h1 => ?_) (fun h1 => ?_)⟩
      · have e : pg = stp pg ps k := by
          unfold stp
          rw [if_pos]
          refine ⟨by omega, fun q => ?_⟩
          rw [q] at h1
          simp at h1
        refine ⟨_, rfl, _, rfl, a, C, dx, _, _, rfl, hA, T.cl, T.nP, planF_page _ _, done pg e _ ?_⟩
        rw [e]
        exact kk
      · have e : (ps.getD k default).align = stp pg ps k := by
          unfold stp
          rw [if_neg]
          rintro ⟨_, q⟩
          refine h1 ?_
          rw [decide_eq_false]
          · rfl
          · intro z
            injection z with z
            exact q z
        refine ⟨_, rfl, _, rfl, _, rfl, t, xs, _, _, rfl, rfl, SqT.of hT, atI_nat hb1, b1, _, _, _, rfl, rfl, SqT.of hp1, rfl, done _ e _ ?_⟩
        rw [e]
        exact kk
    · have h0' : ¬ (0 : Int) < (k : Int) := fun z => h0 (decide_eq_true z)
      have e : (ps.getD k default).align = stp pg ps k := by
        unfold stp
        rw [if_neg]
        rintro ⟨q, _⟩
        omega
      refine iteF ⟨_, rfl, _, rfl, _, rfl, t, xs, _, _, rfl, rfl, SqT.of hT, atI_nat hb1, b1, _, _, _, rfl, rfl, SqT.of hp1, rfl, done _ e _ ?_⟩
      rw [e]
      exact kk
/-! ### number_of -/
def sp_number_of (C : Addr) : Sp := fun vs H Q _ => ∃ (v : V) (pg : Int) (ps : List Part) (k : Nat), vs = [v, .str (ps.getD k default).word] ∧ PlanV C H v pg ps ∧ k < ps.length ∧ WordOk (ps.getD k default).word ∧ (∀ j, j < k → (ps.getD j default).word ≠ (ps.getD k default).word) ∧ RetV (.int (k : Int)) H Q
theorem sc_number_of : FnScope ["plan", "word", "number", "part"] ["plan", "word"] (defScope s_number_of) := ⟨rfl, rfl, rfl, by decide +kernel, rfl, by decide +kernel, by decide +kernel⟩
theorem ok_number_of (T : Txt K mg C aR aA aP) (D : Dn K mg "number_of" s_number_of) (c_is_word : Cal P w K mg base 1 "is_word" sp_is_word) : Cal P w K mg base 2 "number_of" (sp_number_of C) := by
  have nd := sc_number_of.nd
  refine cal_mk D sc_number_of (fun _ _ _ _ _ _ us hl => match us, hl with | [_, _], _ => rfl) (fun vs H Q E h => ?_) (fun f cdv A outer s H vs Q E hr h => ?_)
  · obtain ⟨v, pg, ps, k, rfl, _⟩ := h
    rfl
  · obtain ⟨v, pg, ps, k, rfl, ⟨a, dx, t, xs, rfl, hA, hT, hP⟩, hk, hw, hne, kk⟩ := h
    refine ⟨_, (pss_cons
    (ps_for PassesOwn.never rfl (pi_enumT (by rfl) T.enumerate (pa_cons (pe_fld (pv 0) rfl) pa_nil)) (pg_tup rfl (pgs_cons (pg_name (i := 2) nd rfl (Or.inl rfl)) (pgs_cons (pg_name (i := 3) nd rfl (Or.inl rfl)) pgs_nil)))
      (pss_one
      (ps_if (PW.pt (pw_and (pt_val (pe_c c_is_word hr (by decide) rfl (pa_cons (pv 1) pa_nil))) (pw_and1 (pt_cmpR op_eq (pe_ix ix_tup (pv 3) pe_int (fun _ _ => rfl)) (pv 1) (nomark _)))))
        (pss_one
        (ps_ret (pv 2)))
        pss_nil)))
    (pss_one
    ps_never)), ?_⟩
    refine ⟨_, rfl, a, C, dx, _, _, rfl, hA, T.cl, T.nQ, planF_parts _ _, t, xs, rfl, SqT.of hT, ?_⟩
    have hlen := pd_len hP
    refine for_it walk_enumT (fun i σ H' => (∃ v2 v3, σ = [some (.ref a), some (.str (ps.getD k default).word), v2, v3]) ∧ Ex H H' ∧ i ≤ k) ⟨⟨_, _, rfl⟩, Evl.Ex.refl _, Nat.zero_le _⟩ (fun i σ H' _ p => SqT.of (p.2.1 _ _ hT)) ?_ ?_
    · rintro i x σ H' H'' hi ⟨⟨v2, v3, rfl⟩, e1, hik⟩ ⟨T', x', y', rfl, hT', rfl, ex, ey⟩
      cases ex
      have hi' : i < ps.length := by omega
      obtain ⟨b, hb, hp⟩ := part_at hP hi'
      have ey0 : xs[i]? = some y' := ey
      have ey' : y' = .ref b := by rw [ey0] at hb; exact Option.some.inj hb
      subst ey'
      have e2 : Ex H (upd H' T' (.tup [.int (i : Int), .ref b])) := e1.trans (Evl.Ex.new hT')
      refine ⟨T', _, rfl, SqT.of upd_same, rfl, _, _, rfl, _, _, rfl, rfl, ?_⟩
      refine ⟨_, rfl, _, rfl, hw, fun H3 e3 => ⟨true, rfl, iteT ?_⟩⟩
      refine ⟨_, rfl, b, _, _, _, rfl, rfl, SqT.of ((e2.trans e3) _ _ hp), rfl, _, rfl, rfl, _, rfl, ite2 (fun h1 => ?_) (fun h1 => ?_)⟩
      · have h1' := of_decide_eq_true h1
        injection h1' with h1'
        have : i = k := by
          rcases Nat.lt_or_ge i k with q | q
          · exact absurd h1' (hne i q)
          · omega
        subst this
        exact ⟨_, rfl, kk _ (e2.trans e3)⟩
      · refine ⟨⟨_, _, rfl⟩, e2.trans e3, ?_⟩
        rcases Nat.lt_or_ge i k with q | q
        · omega
        · have : i = k := by omega
          subst this
          exact absurd (decide_eq_true rfl) h1
    · rintro σ H' ⟨_, _, hik⟩
      exfalso
      omega
/-! ### checked_two, checked_far -/
def sp_checked_two (C : Addr) : Sp := fun vs H Q _ => ∃ (v : V) (pg : Int) (ps : List Part) (a b : Nat), vs = [v, .str (ps.getD a default).word, .str (ps.getD b default).word] ∧ PlanV C H v pg ps ∧ a < b ∧ b < ps.length ∧ (∀ k, k < ps.length → WordOk (ps.getD k default).word) ∧
  (∀ i j, i < j → j < ps.length → (ps.getD i default).word ≠ (ps.getD j default).word) ∧ ∀ H' p, Ex H H' → H' p = some (.tup [.int (a : Int), .int (b : Int)]) → Q (.ref p) H'
theorem sc_checked_two : FnScope ["plan", "one", "other", "first", "second"] ["plan", "one", "other"] (defScope s_checked_two) := ⟨rfl, rfl, rfl, by decide +kernel, rfl, by decide +kernel, by decide +kernel⟩
theorem ok_checked_two (D : Dn K mg "checked_two" s_checked_two) (c_number_of : Cal P w K mg base 2 "number_of" (sp_number_of C)) : Cal P w K mg base 3 "checked_two" (sp_checked_two C) := by
  have nd := sc_checked_two.nd
  refine cal_mk D sc_checked_two (fun _ _ _ _ _ _ us hl => match us, hl with | [_, _, _], _ => rfl) (fun vs H Q E h => ?_) (fun f cdv A outer s H vs Q E hr h => ?_)
  · obtain ⟨v, pg, ps, a, b, rfl, _⟩ := h
    rfl
  · obtain ⟨v, pg, ps, a, b, rfl, hP, hab, hb, hw, hne, kk⟩ := h
    refine ⟨_, (pss_cons
    (ps_par (i := 3) (j := 4) rfl nd rfl rfl (by decide) rfl rfl (pa_cons (pe_c c_number_of hr (by decide) rfl (pa_cons (pv 0) (pa_cons (pv 1) pa_nil))) (pa_cons (pe_c c_number_of hr (by decide) rfl (pa_cons (pv 0) (pa_cons (pv 2) pa_nil))) pa_nil)) (by rfl))
    (pss_cons
    (ps_if (pt_cmpR op_le (pv 4) (pv 3) (nomark _))
      (pss_one
      ps_never)
      pss_nil)
    (pss_one
    (ps_ret (pe_tup (pa_cons (pv 3) (pa_cons (pv 4) pa_nil))))))), ?_⟩
    refine ⟨_, rfl, _, rfl, v, pg, ps, a, rfl, hP, by omega, hw a (by omega), fun j hj => hne j a hj (by omega), fun H1 e1 => ?_⟩
    refine ⟨_, rfl, _, rfl, v, pg, ps, b, rfl, hP.mono (mo_ex e1), hb, hw b hb, fun j hj => hne j b hj hb, fun H2 e2 => ⟨_, _, rfl, ?_⟩⟩
    refine ⟨_, rfl, _, rfl, _, _, rfl, rfl, _, rfl, iteF_ (by simp; omega) ?_⟩
    refine ⟨_, rfl, _, rfl, by show 2 ≤ sizeLine; decide, fun p hp => kk _ p ((e1.trans e2).trans (Evl.Ex.new hp)) upd_same⟩
def sp_checked_far : Sp := fun vs H Q _ => ∃ i : Int, vs = [.int i] ∧ RetV (.int i) H Q
theorem sc_checked_far : FnScope ["far"] ["far"] (defScope s_checked_far) := ⟨rfl, rfl, rfl, by decide +kernel, rfl, by decide +kernel, by decide +kernel⟩
theorem ok_checked_far (D : Dn K mg "checked_far" s_checked_far) (c_is_integer : Cal P w K mg base 1 "is_integer" sp_is_integer) : Cal P w K mg base 2 "checked_far" sp_checked_far := by
  have nd := sc_checked_far.nd
  refine cal_mk D sc_checked_far (fun _ _ _ _ _ _ us hl => match us, hl with | [_], _ => rfl) (fun vs H Q E h => ?_) (fun f cdv A outer s H vs Q E hr h => ?_)
  · obtain ⟨i, rfl, _⟩ := h
    rfl
  · obtain ⟨i, rfl, kk⟩ := h
    refine ⟨_, (pss_cons
    (ps_if (pt_not (pt_val (pe_c c_is_integer hr (by decide) rfl (pa_cons (pv 0) pa_nil))))
      (pss_one
      ps_never)
      pss_nil)
    (pss_one
    (ps_ret (pv 0)))), ?_⟩
    refine ⟨_, rfl, i, rfl, fun H1 e1 => ⟨true, rfl, iteF ⟨_, rfl, kk _ e1⟩⟩⟩
/-! ### leasts, mosts -/
def sp_col (C : Addr) (g : Part → Int) : Sp := fun vs H Q _ => ∃ (v : V) (pg : Int) (ps : List Part), vs = [v] ∧ PlanV C H v pg ps ∧ ps.length ≤ 1000 ∧ RetL ((ps.map g).map V.int) H Q
theorem sc_leasts : FnScope ["plan", "part"] ["plan"] (defScope s_leasts) := ⟨rfl, rfl, rfl, by decide +kernel, rfl, by decide +kernel, by decide +kernel⟩
theorem sc_mosts : FnScope ["plan", "part"] ["plan"] (defScope s_mosts) := ⟨rfl, rfl, rfl, by decide +kernel, rfl, by decide +kernel, by decide +kernel⟩
theorem ok_leasts (T : Txt K mg C aR aA aP) (D : Dn K mg "leasts" s_leasts) : Cal P w K mg base 1 "leasts" (sp_col C Part.least) := by
  have nd := sc_leasts.nd
  refine cal_mk D sc_leasts (fun _ _ _ _ _ _ us hl => match us, hl with | [_], _ => rfl) (fun vs H Q E h => ?_) (fun f cdv A outer s H vs Q E hr h => ?_)
  · obtain ⟨v, pg, ps, rfl, _⟩ := h
    rfl
  · obtain ⟨v, pg, ps, rfl, ⟨a, dx, t, xs, rfl, hA, hT, hP⟩, hlp, kk⟩ := h
    refine ⟨_, (pss_one
    (ps_ret (pe_lc (own := [("part", 1)]) rfl nd (pi_tup (pe_fld (pv 0) rfl)) (blkOk_by (N := ["plan", "part"]) (sc := defScope s_leasts) (by decide +kernel)) (fun _ _ _ _ _ => (pg_name (i := 1) nd rfl (Or.inl rfl))) (fun _ _ _ _ _ => pts_nil) (fun _ _ _ _ _ => (pe_ix (r := rIxT K) ix_tup (pv 1) pe_int (fun _ _ => rfl)))))), ?_⟩
    have hlen := pd_len hP
    have hL : xs.length ≤ sizeLine := by rw [hlen]; exact Nat.le_trans hlp (by decide)
    refine ⟨_, rfl, a, C, dx, _, _, rfl, hA, T.cl, T.nQ, planF_parts _ _, t, rfl, ⟨xs, SqT.of hT⟩, fun p hp => ?_⟩
    refine lc_pure walk_tup hp hL (fun i acc _ => acc = ((ps.take i).map Part.least).map V.int) (fun _ _ _ _ _ q => q) (fun H' e => SqT.of (e _ _ hT)) rfl ?_ ?_
    · rintro i x H' H'' acc Kt K0 hi e1 ha ⟨rfl, hx⟩ k1 _
      obtain ⟨b, hb, hp⟩ := part_at hP (show i < ps.length by omega)
      have ex : x = .ref b := by rw [hx] at hb; exact Option.some.inj hb
      subst ex
      refine ⟨rfl, yes_ ⟨_, rfl, b, _, _, _, rfl, rfl, SqT.of (e1 _ _ hp), rfl, k1 _ _ (Evl.Ex.refl _) ?_⟩⟩
      rw [take_snoc (show ps[i]? = some (ps.getD i default) by rw [List.getD_eq_getElem?_getD, List.getElem?_eq_getElem (by omega)]; rfl), List.map_append, ha]
      rfl
    · intro acc H' e1 hacc ha
      refine kk p H' hp e1 ?_
      rw [hacc, ha, hlen, List.take_length]
theorem ok_mosts (T : Txt K mg C aR aA aP) (D : Dn K mg "mosts" s_mosts) : Cal P w K mg base 1 "mosts" (sp_col C Part.most) := by
  have nd := sc_mosts.nd
  refine cal_mk D sc_mosts (fun _ _ _ _ _ _ us hl => match us, hl with | [_], _ => rfl) (fun vs H Q E h => ?_) (fun f cdv A outer s H vs Q E hr h => ?_)
  · obtain ⟨v, pg, ps, rfl, _⟩ := h
    rfl
  · obtain ⟨v, pg, ps, rfl, ⟨a, dx, t, xs, rfl, hA, hT, hP⟩, hlp, kk⟩ := h
    refine ⟨_, (pss_one
    (ps_ret (pe_lc (own := [("part", 1)]) rfl nd (pi_tup (pe_fld (pv 0) rfl)) (blkOk_by (N := ["plan", "part"]) (sc := defScope s_mosts) (by decide +kernel)) (fun _ _ _ _ _ => (pg_name (i := 1) nd rfl (Or.inl rfl))) (fun _ _ _ _ _ => pts_nil) (fun _ _ _ _ _ => (pe_ix (r := rIxT K) ix_tup (pv 1) pe_int (fun _ _ => rfl)))))), ?_⟩
    have hlen := pd_len hP
    have hL : xs.length ≤ sizeLine := by rw [hlen]; exact Nat.le_trans hlp (by decide)
    refine ⟨_, rfl, a, C, dx, _, _, rfl, hA, T.cl, T.nQ, planF_parts _ _, t, rfl, ⟨xs, SqT.of hT⟩, fun p hp => ?_⟩
    refine lc_pure walk_tup hp hL (fun i acc _ => acc = ((ps.take i).map Part.most).map V.int) (fun _ _ _ _ _ q => q) (fun H' e => SqT.of (e _ _ hT)) rfl ?_ ?_
    · rintro i x H' H'' acc Kt K0 hi e1 ha ⟨rfl, hx⟩ k1 _
      obtain ⟨b, hb, hp⟩ := part_at hP (show i < ps.length by omega)
      have ex : x = .ref b := by rw [hx] at hb; exact Option.some.inj hb
      subst ex
      refine ⟨rfl, yes_ ⟨_, rfl, b, _, _, _, rfl, rfl, SqT.of (e1 _ _ hp), rfl, k1 _ _ (Evl.Ex.refl _) ?_⟩⟩
      rw [take_snoc (show ps[i]? = some (ps.getD i default) by rw [List.getD_eq_getElem?_getD, List.getElem?_eq_getElem (by omega)]; rfl), List.map_append, ha]
      rfl
    · intro acc H' e1 hacc ha
      refine kk p H' hp e1 ?_
      rw [hacc, ha, hlen, List.take_length]
end
end Lk
namespace Lk
open PySem PySem.Spec PyProof.Rows L2
open Evl (Ex RetV RetL)
theorem ints_at {r : List Int} {k : Nat} (h : k < r.length) : (r.map V.int)[k]? = some (.int (r.getD k 0)) := by
  rw [List.getElem?_map, List.getD_eq_getElem?_getD, List.getElem?_eq_getElem h]
  rfl
section
variable {P : Program} {w : World} {K : PySem.W.Frag} {mg : Str → Option Value} {base : Heap} {C aR aA aP : Addr}
/-! ### address_behind -/
def sp_address_behind (C : Addr) : Sp := fun vs H Q _ => ∃ (v z : V) (pg : Int) (ps : List Part) (a b : Nat) (x : Int) (r : List Int), vs = [v, .int (a : Int), .int (b : Int), .int x, z] ∧ PlanV C H v pg ps ∧ a ≤ b ∧ b < ps.length ∧ ps.length ≤ 1000 ∧ (∀ k, k < ps.length → 0 < stp pg ps k) ∧
  IntsV H z r ∧ r.length = ps.length ∧ RetV (.int (beh (stp pg ps) (fun k => r.getD k 0) a x (b - a))) H Q
theorem sc_address_behind : FnScope ["plan", "first", "second", "start", "sizes", "address", "place"] ["plan", "first", "second", "start", "sizes"] (defScope s_address_behind) := ⟨rfl, rfl, rfl, by decide +kernel, rfl, by decide +kernel, by decide +kernel⟩
theorem ok_address_behind (T : Txt K mg C aR aA aP) (D : Dn K mg "address_behind" s_address_behind) (c_lowest : Cal P w K mg base 2 "lowest" (sp_lowest C)) : Cal P w K mg base 3 "address_behind" (sp_address_behind C) := by
  have nd := sc_address_behind.nd
  refine cal_mk D sc_address_behind (fun _ _ _ _ _ _ us hl => match us, hl with | [_, _, _, _, _], _ => rfl) (fun vs H Q E h => ?_) (fun f cdv A outer s H vs Q E hr h => ?_)
  · obtain ⟨v, z, pg, ps, a, b, x, r, rfl, _⟩ := h
    rfl
  · obtain ⟨v, z, pg, ps, a, b, x, r, rfl, hP, hab, hb, hlp, hst, hz, hr', kk⟩ := h
    refine ⟨_, (pss_cons
    (ps_set (i := 5) nd rfl (Or.inl rfl) (pv 3))
    (pss_cons
    (ps_for PassesOwn.never rfl (pi_range2 (by rfl) T.range (pa_cons (pv 1) (pa_cons (pv 2) pa_nil))) (pg_name (i := 6) nd rfl (Or.inl rfl))
      (pss_one
      (ps_set (i := 5) nd rfl (Or.inl rfl) (pe_c c_lowest hr (by decide) rfl (pa_cons (pv 0) (pa_cons (pe_op op_add (pv 6) pe_int) (pa_cons (pe_op op_add (pv 5) (pe_ix ix_seq (pv 4) (pv 6) (fun _ _ => rfl))) pa_nil)))))))
    (pss_one
    (ps_ret (pv 5))))), ?_⟩
    refine ⟨_, rfl, ?_⟩
    refine ⟨_, rfl, _, rfl, _, _, rfl, ⟨by omega, by omega, by omega, by omega⟩, ?_⟩
    refine for_range (lo := (a : Int)) (n := ((b : Int) - (a : Int)).toNat) (fun i σ H' => (∃ v6, σ = [some v, some (.int (a : Int)), some (.int (b : Int)), some (.int x), some z, some (.int (beh (stp pg ps) (fun k => r.getD k 0) a x i)), v6]) ∧ Ex H H') ⟨⟨_, rfl⟩, Evl.Ex.refl _⟩ ?_ ?_
    · rintro i σ H' hi ⟨⟨v6, rfl⟩, e1⟩
      obtain ⟨p, rfl, hp⟩ := hz.mono e1
      have hk : a + i < ps.length := by omega
      have hx := ints_at (r := r) (k := a + i) (by omega)
      have key : sp_lowest C [v, .int ((a : Int) + (i : Int) + 1), .int (beh (stp pg ps) (fun k => r.getD k 0) a x i + r.getD (a + i) 0)] H' (fun v' H1 => (∃ v6, ([some v, some (.int (a : Int)), some (.int (b : Int)), some (.int x), some (.ref p), some v', some (.int ((a : Int) + (i : Int)))] : L2.St) = [some v, some (.int (a : Int)), some (.int (b : Int)), some (.int x), some (.ref p), some (.int (beh (stp pg ps) (fun k => r.getD k 0) a x (i + 1))), v6]) ∧ Ex H H1) E0 := by
        refine ⟨v, pg, ps, a + i + 1, _, by rw [show ((a : Int) + (i : Int) + 1) = ((a + i + 1 : Nat) : Int) by omega], hP.mono (mo_ex e1), by omega, hst _ (by omega), fun H2 e2 => ⟨⟨_, rfl⟩, e1.trans e2⟩⟩
      refine ⟨_, rfl, _, rfl, _, _, rfl, rfl, _, rfl, _, rfl, _, rfl, ?_⟩
      rcases hp with hp | hp
      · exact .inl ⟨p, _, _, _, rfl, rfl, SqL.of hp, at_of (j := a + i) (by omega) hx, _, _, rfl, rfl, key⟩
      · exact .inr (.inl ⟨p, _, _, _, rfl, rfl, SqT.of hp, at_of (j := a + i) (by omega) hx, _, _, rfl, rfl, key⟩)
    · rintro σ H' ⟨⟨v6, rfl⟩, e1⟩
      rw [show ((b : Int) - (a : Int)).toNat = b - a by omega]
      exact ⟨_, rfl, kk _ e1⟩
/-! ### checked_sizes -/
def sp_checked_sizes (C : Addr) : Sp := fun vs H Q _ => ∃ (v z : V) (pg : Int) (ps : List Part) (r : List Int), vs = [v, z] ∧ PlanV C H v pg ps ∧ IntsV H z r ∧ r.length = ps.length ∧ ps.length ≤ 1000 ∧ (∀ k, k < ps.length → (ps.getD k default).least ≤ r.getD k 0 ∧ r.getD k 0 ≤ (ps.getD k default).most) ∧
  RetL (r.map V.int) H Q
theorem sc_checked_sizes : FnScope ["plan", "sizes", "parts", "index", "size"] ["plan", "sizes"] (defScope s_checked_sizes) := ⟨rfl, rfl, rfl, by decide +kernel, rfl, by decide +kernel, by decide +kernel⟩
theorem ok_checked_sizes (T : Txt K mg C aR aA aP) (D : Dn K mg "checked_sizes" s_checked_sizes) (c_is_list : Cal P w K mg base 1 "is_list" sp_is_list) (c_is_integer : Cal P w K mg base 1 "is_integer" sp_is_integer) : Cal P w K mg base 2 "checked_sizes" (sp_checked_sizes C) := by
  have nd := sc_checked_sizes.nd
  refine cal_mk D sc_checked_sizes (fun _ _ _ _ _ _ us hl => match us, hl with | [_, _], _ => rfl) (fun vs H Q E h => ?_) (fun f cdv A outer s H vs Q E hr h => ?_)
  · obtain ⟨v, z, pg, ps, r, rfl, _⟩ := h
    rfl
  · obtain ⟨v, z, pg, ps, r, rfl, ⟨a, dx, t, xs, rfl, hA, hT, hP⟩, ⟨p, rfl, hp⟩, hlr, hlp, hin, kk⟩ := h
    have hxl := pd_len hP
    refine ⟨_, (pss_cons
    (ps_if (pt_not (pt_val (pe_c c_is_list hr (by decide) rfl (pa_cons (pv 1) pa_nil))))
      (pss_one
      ps_never)
      pss_nil)
    (pss_cons
    (ps_set (i := 2) nd rfl (Or.inl rfl) (pe_fld (pv 0) rfl))
    (pss_cons
    (ps_for PassesOwn.never rfl (pi_enumA (by rfl) T.enumerate (pa_cons (pv 1) pa_nil)) (pg_tup rfl (pgs_cons (pg_name (i := 3) nd rfl (Or.inl rfl)) (pgs_cons (pg_name (i := 4) nd rfl (Or.inl rfl)) pgs_nil)))
      (pss_one
      (ps_if (PW.pt (pw_or (pt_cmpR op_ge (pv 3) (pe_callB call_len_seq (by rfl) T.len PySem.boot_len (pa_cons (pv 2) pa_nil)) (nomark _)) (pw_or (pt_not (pt_val (pe_c c_is_integer hr (by decide) rfl (pa_cons (pv 4) pa_nil)))) (pw_or1 (pt_not (pt_chain op_le op_le (pe_ix ix_tup (pe_ix ix_tup (pv 2) (pv 3) (fun _ _ => rfl)) pe_int (fun _ _ => rfl)) (pv 4) (pe_ix ix_tup (pe_ix ix_tup (pv 2) (pv 3) (fun _ _ => rfl)) pe_int (fun _ _ => rfl))))))))
        (pss_one
        ps_never)
        pss_nil)))
    (pss_cons
    (ps_if (pt_cmpR op_lt (pe_callB call_len_seq (by rfl) T.len PySem.boot_len (pa_cons (pv 1) pa_nil)) (pe_callB call_len_seq (by rfl) T.len PySem.boot_len (pa_cons (pv 2) pa_nil)) (nomark _))
      (pss_one
      ps_never)
      pss_nil)
    (pss_one
    (ps_ret (pe_callTy call_list_of (by rfl) T.list (by decide +kernel) (pa_cons (pv 1) pa_nil)))))))), ?_⟩
    refine ⟨_, rfl, p, _, rfl, hp, fun H1 e1 => ⟨true, rfl, iteF ?_⟩⟩
    refine ⟨_, rfl, a, C, dx, _, _, rfl, e1 _ _ hA, T.cl, T.nQ, planF_parts _ _, ?_⟩
    refine ⟨_, rfl, p, r.map V.int, rfl, ?_⟩
    have hlen : (r.map V.int).length = r.length := List.length_map ..
    rcases hp.imp (e1 _ _) (e1 _ _) with q | q
    case' inl => refine .inl ⟨SqL.of q, for_it walk_enum (fun i σ H' => (∃ v3 v4, σ = [some (.ref a), some (.ref p), some (.ref t), v3, v4]) ∧ Ex H1 H') ⟨⟨_, _, rfl⟩, Evl.Ex.refl _⟩ (fun i σ H' _ pp => SqL.of (pp.2 _ _ q)) ?_ ?_⟩
    case' inr => refine .inr ⟨SqT.of q, for_it walk_enumT (fun i σ H' => (∃ v3 v4, σ = [some (.ref a), some (.ref p), some (.ref t), v3, v4]) ∧ Ex H1 H') ⟨⟨_, _, rfl⟩, Evl.Ex.refl _⟩ (fun i σ H' _ pp => SqT.of (pp.2 _ _ q)) ?_ ?_⟩
    all_goals first
      | (rintro i x σ H' H'' hi ⟨⟨v3, v4, rfl⟩, e2⟩ ⟨T', x', y', rfl, hT', rfl, ex, ey⟩
         cases ex
         rw [hlen] at hi
         have ey0 : (r.map V.int)[i]? = some y' := ey
         rw [ints_at hi] at ey0
         cases ey0
         have hi' : i < ps.length := by omega
         obtain ⟨b, hb, hpb⟩ := part_at hP hi'
         have e3 := (e1.trans e2).trans (Evl.Ex.new (o := .tup [.int (i : Int), .int (r.getD i 0)]) hT')
         have e3' := e2.trans (Evl.Ex.new (o := .tup [.int (i : Int), .int (r.getD i 0)]) hT')
         obtain ⟨hi1, hi2⟩ := hin i hi'
         refine ⟨T', _, rfl, SqT.of upd_same, rfl, _, _, rfl, _, _, rfl, rfl, ?_⟩
         refine ⟨_, rfl, _, rfl, t, xs, rfl, .inr (SqT.of (e3 _ _ hT)), _, _, rfl, rfl, _, rfl, iteF_ (by simp; omega) ?_⟩
         refine ⟨_, rfl, _, rfl, fun H4 e4 => ⟨true, rfl, iteF ?_⟩⟩
         have e5 := e3.trans e4
         refine ⟨_, rfl, _, rfl, t, xs, _, _, rfl, rfl, SqT.of (e5 _ _ hT), atI_nat hb, b, _, _, _, rfl, rfl, SqT.of (e5 _ _ hpb), rfl, _, rfl, _, _, rfl, rfl, _, rfl, iteT_ (decide_eq_true hi1) ?_⟩
         refine ⟨_, rfl, _, rfl, t, xs, _, _, rfl, rfl, SqT.of (e5 _ _ hT), atI_nat hb, b, _, _, _, rfl, rfl, SqT.of (e5 _ _ hpb), rfl, _, _, rfl, rfl, _, rfl, iteF_ (by rw [decide_eq_true hi2]; simp) ?_⟩
         exact ⟨⟨_, _, rfl⟩, e3'.trans e4⟩)
      | (rintro σ H' ⟨⟨v3, v4, rfl⟩, e2⟩
         have e3 := e1.trans e2
         have hp3 := hp.imp (e3 _ _) (e3 _ _)
         have hsq : SqL K H' p (r.map V.int) ∨ SqT K H' p (r.map V.int) := hp3.imp SqL.of SqT.of
         refine ⟨_, rfl, p, _, rfl, hsq, _, rfl, t, xs, rfl, .inr (SqT.of (e3 _ _ hT)), _, _, rfl, rfl, _, rfl, iteF_ (by simp; omega) ?_⟩
         refine ⟨_, rfl, p, _, rfl, hsq, fun l hl => ?_⟩
         exact kk l _ (Evl.fresh_back e3 hl) (e3.trans (Evl.Ex.new hl)) upd_same)
end
end Lk
namespace Lk
open PySem PySem.Spec PyProof.Rows L2
open Evl (Ex RetV RetL)
/-! ### tables of rests -/
def StandV (n : Nat) (H : Hp) (v : V) : Prop := ∃ (a b : Addr) (t : Int) (row : List Int), v = .ref a ∧ H a = some (.tup [.int t, .ref b]) ∧ H b = some (.tup (row.map V.int)) ∧ row.length = n
theorem StandV.mono {n : Nat} {H H' : Hp} {v : V} (e : Mo H H') (h : StandV n H v) : StandV n H' v := let ⟨a, b, t, row, ev, h1, h2, h3⟩ := h; ⟨a, b, t, row, ev, e _ _ h1 trivial, e _ _ h2 trivial, h3⟩
theorem alikeAll_ints : ∀ r s : List Int, PySem.W.alikeAll (r.map PyData.int) (s.map PyData.int) = true
  | [], _ => by simp [PySem.W.alikeAll]
  | _ :: _, [] => by simp [PySem.W.alikeAll]
  | x :: xs, y :: ys => by simp only [List.map_cons, PySem.W.alikeAll, PySem.W.alike, alikeAll_ints xs ys, Bool.and_self]
theorem depthAll_ints : ∀ r : List Int, PyData.depthAll (r.map PyData.int) = 0
  | [] => rfl
  | x :: xs => by
    rw [List.map_cons]
    show max (PyData.depth (.int x)) (PyData.depthAll (xs.map PyData.int)) = 0
    rw [depthAll_ints xs]
    rfl
theorem dpAll_ints {K : PySem.W.Frag} {H : Hp} : ∀ r : List Int, DpAll K H (r.map V.int) (r.map PyData.int)
  | [] => .nil
  | x :: xs => .cons (.int x) (dpAll_ints xs)
theorem dp_row {K : PySem.W.Frag} {H : Hp} {v : V} {r : List Int} (h : RowV H v r) : Dp K H v (.tuple (r.map PyData.int)) := by
  obtain ⟨a, rfl, ha⟩ := h
  exact .tup (SqT.of ha) (dpAll_ints r)
theorem StandV.dp {K : PySem.W.Frag} {n : Nat} {H : Hp} {v : V} (h : StandV n H v) : ∃ (t : Int) (row : List Int), Dp K H v (.tuple [.int t, .tuple (row.map PyData.int)]) := by
  obtain ⟨a, b, t, row, rfl, h1, h2, _⟩ := h
  exact ⟨t, row, .tup (SqT.of h1) (.cons (.int t) (.cons (dp_row ⟨b, rfl, h2⟩) .nil))⟩
theorem rMinD_stand {K : PySem.W.Frag} {n : Nat} {H : Hp} {x y : V} {Q : VK} (hx : StandV n H x) (hy : StandV n H y) (q : ∀ z, StandV n H z → Q z H) : rMinD K [x, y] H Q := by
  obtain ⟨t, row, h1⟩ := hx.dp (K := K)
  obtain ⟨t', row', h2⟩ := hy.dp (K := K)
  refine ⟨x, y, _, _, rfl, h1, h2, ?_, fun z => (nomatch z), ?_, fun b => ?_⟩
  · simp only [PySem.W.alike, PySem.W.alikeAll, alikeAll_ints, Bool.and_self]
  · show max 0 (max (PyData.depthAll (row.map PyData.int) + 1) 0) + 1 ≤ 60
    rw [depthAll_ints]
    decide
  · cases b
    · exact q _ hx
    · exact q _ hy
structure Fd (n : Nat) (S C : Int → Prop) (H : Hp) (L : List (L2.Key × V)) : Prop where
  snd : ∀ kv ∈ L, ∃ r, kv.1 = .inl r ∧ S r ∧ StandV n H kv.2
  cmp : ∀ r, C r → ∃ kv ∈ L, kv.1 = .inl r
  nd : (L.map (·.1)).Nodup
theorem Fd.mono {n : Nat} {S C : Int → Prop} {H H' : Hp} {L : List (L2.Key × V)} (e : Mo H H') (h : Fd n S C H L) : Fd n S C H' L := ⟨fun kv hkv => let ⟨r, e1, e2, e3⟩ := h.snd kv hkv; ⟨r, e1, e2, e3.mono e⟩, h.cmp, h.nd⟩
theorem Fd.weak {n : Nat} {S C C' : Int → Prop} {H : Hp} {L : List (L2.Key × V)} (h : Fd n S C H L) (f : ∀ r, C' r → C r) : Fd n S C' H L := ⟨h.snd, fun r hr => h.cmp r (f r hr), h.nd⟩
theorem Fd.nil {n : Nat} {S C : Int → Prop} {H : Hp} (h : ∀ r, ¬ C r) : Fd n S C H [] := ⟨fun _ q => (nomatch q), fun r hr => absurd hr (h r), List.nodup_nil⟩
theorem putK_keys_map (L : List (L2.Key × V)) (k : L2.Key) (v : V) : ((L.map fun kv => if kv.1 = k then (kv.1, v) else kv).map (·.1)) = L.map (·.1) := by
  rw [List.map_map]
  refine List.map_congr_left fun kv _ => ?_
  show (if kv.1 = k then (kv.1, v) else kv).1 = kv.1
  split <;> rfl
theorem Fd.put {n : Nat} {S C : Int → Prop} {H : Hp} {L : List (L2.Key × V)} {r : Int} {v : V} (h : Fd n S C H L) (hr : S r) (hv : StandV n H v) : Fd n S (fun x => C x ∨ x = r) H (putK L (.inl r) v) := by
  unfold putK
  by_cases q : (L.any fun kv => decide (kv.1 = .inl r)) = true
  · rw [if_pos q]
    refine ⟨fun kv hkv => ?_, fun x hx => ?_, by rw [putK_keys_map]; exact h.nd⟩
    · obtain ⟨kv0, h0, e⟩ := List.mem_map.mp hkv
      obtain ⟨r0, e1, e2, e3⟩ := h.snd kv0 h0
      by_cases hk : kv0.1 = .inl r
      · rw [if_pos hk] at e
        subst e
        exact ⟨r0, e1, e2, hv⟩
      · rw [if_neg hk] at e
        subst e
        exact ⟨r0, e1, e2, e3⟩
    · have key : ∃ kv ∈ L, kv.1 = .inl x := by
        rcases hx with hx | rfl
        · exact h.cmp x hx
        · obtain ⟨kv, h1, h2⟩ := List.any_eq_true.mp q
          exact ⟨kv, h1, of_decide_eq_true h2⟩
      obtain ⟨kv, h1, h2⟩ := key
      refine ⟨_, List.mem_map.mpr ⟨kv, h1, rfl⟩, ?_⟩
      show (if kv.1 = .inl r then (kv.1, v) else kv).1 = _
      split <;> exact h2
  · rw [if_neg q]
    refine ⟨fun kv hkv => ?_, fun x hx => ?_, ?_⟩
    · rcases List.mem_append.mp hkv with h1 | h1
      · exact h.snd kv h1
      · rw [List.mem_singleton.mp h1]
        exact ⟨r, rfl, hr, hv⟩
    · rcases hx with hx | rfl
      · obtain ⟨kv, h1, h2⟩ := h.cmp x hx
        exact ⟨kv, List.mem_append_left _ h1, h2⟩
      · exact ⟨_, List.mem_append_right _ (List.mem_singleton.mpr rfl), rfl⟩
    · rw [List.map_append, List.nodup_append]
      refine ⟨h.nd, List.nodup_cons.mpr ⟨by simp, List.nodup_nil⟩, fun a ha b hb e => q ?_⟩
      obtain ⟨kv, h1, h2⟩ := List.mem_map.mp ha
      have hb' : b = .inl r := by simpa using hb
      exact List.any_eq_true.mpr ⟨kv, h1, decide_eq_true (h2.trans (e.trans hb'))⟩
theorem php : ∀ (n : Nat) (l : List Int), l.Nodup → (∀ r ∈ l, 0 ≤ r ∧ r < (n : Int)) → l.length ≤ n
  | 0, l, _, h => by
    cases l with
    | nil => exact Nat.le_refl _
    | cons x xs =>
      have := h x (List.mem_cons_self ..)
      omega
  | n + 1, l, hn, h => by
    by_cases hm : (n : Int) ∈ l
    · have e := List.length_erase_of_mem hm
      have ih := php n (l.erase (n : Int)) (hn.erase _) fun x hx => by
        obtain ⟨h1, h2⟩ := (List.Nodup.mem_erase_iff hn).mp hx
        have := h x h2
        omega
      omega
    · have ih := php n l hn fun x hx => by
        have := h x hx
        have : x ≠ (n : Int) := fun z => hm (by rw [← z]; exact hx)
        omega
      omega
def keyI : L2.Key → Int
  | .inl r => r
  | .inr _ => 0
theorem Fd.len {m n : Nat} {S C : Int → Prop} {H : Hp} {L : List (L2.Key × V)} (h : Fd m S C H L) (hs : ∀ r, S r → 0 ≤ r ∧ r < (n : Int)) : L.length ≤ n := by
  have nd : (L.map fun kv => keyI kv.1).Nodup := by
    refine List.pairwise_map.mpr ((List.pairwise_map.mp h.nd).imp_of_mem fun {p q} hp hq ne e => ne ?_)
    obtain ⟨r, e1, _⟩ := h.snd p hp
    obtain ⟨s, e2, _⟩ := h.snd q hq
    rw [e1, e2] at e ⊢
    exact congrArg Sum.inl e
  have q := php n (L.map fun kv => keyI kv.1) nd fun x hx => by
    obtain ⟨kv, h1, rfl⟩ := List.mem_map.mp hx
    obtain ⟨r, e, sr, _⟩ := h.snd kv h1
    rw [e]
    exact hs r sr
  rwa [List.length_map] at q
theorem Fd.get {n : Nat} {S C : Int → Prop} {H : Hp} {L : List (L2.Key × V)} {k : L2.Key} {z : V} (h : Fd n S C H L) (hz : StandV n H z) : StandV n H ((valV L k).getD z) := by
  unfold valV
  cases e : L.find? fun kv => decide (kv.1 = k) with
  | none => exact hz
  | some kv => exact (h.snd kv (List.mem_of_find?_eq_some e)).choose_spec.2.2
theorem rIx_ints {K : PySem.W.Frag} {H : Hp} {z : V} {r : List Int} {i : Int} {k : Nat} {Q : VK} (h : IntsV H z r) (hk : k < r.length) (e : i = (k : Int)) (q : Q (.int (r.getD k 0)) H) : rIx K z (.int i) H Q := by
  obtain ⟨p, rfl, hp⟩ := h
  rcases hp with hp | hp
  · exact .inl ⟨p, _, _, _, rfl, rfl, SqL.of hp, at_of e (ints_at hk), q⟩
  · exact .inr (.inl ⟨p, _, _, _, rfl, rfl, SqT.of hp, at_of e (ints_at hk), q⟩)
/-- a plan that is in order -/
structure PlOk (pg : Int) (ps : List Part) : Prop where
  pg0 : 0 < pg
  pg64 : pg ≤ 64
  len : ps.length ≤ 1000
  pos : ∀ k, 0 < stp pg ps k
  dvd : ∀ k, stp pg ps k ∣ pg
  low : ∀ k, k < ps.length → 0 ≤ (ps.getD k default).least
  mid : ∀ k, k < ps.length → (ps.getD k default).least ≤ (ps.getD k default).most
  high : ∀ k, k < ps.length → (ps.getD k default).most ≤ 1000
abbrev loP (ps : List Part) (k : Nat) : Int := (ps.getD k default).least
abbrev hiR (r : List Int) (k : Nat) : Int := r.getD k 0
/-- a row of sizes that lies in the plan's -/
def RowIn (ps : List Part) (r : List Int) : Prop := r.length = ps.length ∧ ∀ k, k < ps.length → (ps.getD k default).least ≤ r.getD k 0 ∧ r.getD k 0 ≤ (ps.getD k default).most
section
variable {P : Program} {w : World} {K : PySem.W.Frag} {mg : Str → Option Value} {base : Heap} {C aR aA aP : Addr}
/-! ### rests_at -/
def sp_rests_at (C : Addr) : Sp := fun vs H Q _ => ∃ (v z : V) (pg : Int) (ps : List Part) (n : Nat) (r : List Int), vs = [v, .int (n : Int), z] ∧ PlanV C H v pg ps ∧ PlOk pg ps ∧ n < ps.length ∧ IntsV H z r ∧ RowIn ps r ∧
  ∀ H' d L, Ex H H' → H d = none → H' d = some (.dK L) → Fd n (IsRest (stp pg ps) (loP ps) (hiR r) pg n) (IsRest (stp pg ps) (loP ps) (hiR r) pg n) H' L → Q (.ref d) H'
theorem sc_rests_at : FnScope ["plan", "number", "bounds", "found", "place", "low", "later", "rest", "total", "row", "size", "goal", "stand"] ["plan", "number", "bounds"] (defScope s_rests_at) := ⟨rfl, rfl, rfl, by decide +kernel, rfl, by decide +kernel, by decide +kernel⟩
theorem ok_rests_at (T : Txt K mg C aR aA aP) (D : Dn K mg "rests_at" s_rests_at) (c_lowest : Cal P w K mg base 2 "lowest" (sp_lowest C)) : Cal P w K mg base 3 "rests_at" (sp_rests_at C) := by
  have nd := sc_rests_at.nd
  refine cal_mk D sc_rests_at (fun _ _ _ _ _ _ us hl => match us, hl with | [_, _, _], _ => rfl) (fun vs H Q E h => ?_) (fun f cdv A outer s H vs Q E hr h => ?_)
  · obtain ⟨v, z, pg, ps, n, r, rfl, _⟩ := h
    rfl
  · obtain ⟨v, z, pg, ps, n, r, rfl, ⟨a, dx, t, xs, rfl, hA, hT, hP⟩, ok, hn, hz, hrow, kk⟩ := h
    have hu := hu_of hr
    have hu64 := hu64_of hr
    refine ⟨_, (pss_cons
    (ps_set (i := 3) nd rfl (Or.inl rfl) (pe_disp (pps_cons pe_int (pe_tup (pa_cons pe_int (pa_cons (pe_tup pa_nil) pa_nil))) pps_nil) (by rfl) (by rfl) (fun z => by cases z) (by decide)))
    (pss_cons
    (ps_for PassesOwn.never rfl (pi_range1 (by rfl) T.range (pa_cons (pv 1) pa_nil)) (pg_name (i := 4) nd rfl (Or.inl rfl))
      (pss_cons
      (ps_par (i := 5) (j := 6) rfl nd rfl rfl (by decide) rfl rfl (pa_cons (pe_ix ix_tup (pe_ix ix_tup (pe_fld (pv 0) rfl) (pv 4) (fun _ _ => rfl)) pe_int (fun _ _ => rfl)) (pa_cons pe_dnewK pa_nil)) (by rfl))
      (pss_cons
      (ps_lock (ps_for PassesOwn.never rfl (pi_items (pv 3)) (pg_tup rfl (pgs_cons (pg_name (i := 7) nd rfl (Or.inl rfl)) (pgs_cons (pg_tup rfl (pgs_cons (pg_name (i := 8) nd rfl (Or.inl rfl)) (pgs_cons (pg_name (i := 9) nd rfl (Or.inl rfl)) pgs_nil))) pgs_nil)))
        (pss_one
        (ps_for PassesOwn.never rfl (pi_range2 (by rfl) T.range (pa_cons (pv 5) (pa_cons (pe_op op_add (pe_callB (call_min2 rfl) (by rfl) T.min (by decide +kernel) (pa_cons (pe_ix ix_seq (pv 2) (pv 4) (fun _ _ => rfl)) (pa_cons (pe_op op_sub (pe_op op_add (pv 5) (pe_fld (pv 0) rfl)) pe_int) pa_nil))) pe_int) pa_nil))) (pg_name (i := 10) nd rfl (Or.inl rfl))
          (pss_cons
          (ps_par (i := 11) (j := 12) rfl nd rfl rfl (by decide) rfl rfl (pa_cons (pe_op op_mod (pe_c c_lowest hr (by decide) rfl (pa_cons (pv 0) (pa_cons (pe_op op_add (pv 4) pe_int) (pa_cons (pe_op op_add (pv 7) (pv 10)) pa_nil)))) (pe_fld (pv 0) rfl)) (pa_cons (pe_tup (pa_cons (pe_op op_add (pv 8) (pv 10)) (pa_cons (pe_tup (pa_starK (K := K) rfl (pv 9) (pa_cons (pv 10) pa_nil))) pa_nil))) pa_nil)) (by rfl))
          (pss_one
          (ps_dput hu (pv 6) (pv 11) (pe_callB (cr_minD rfl hu64) (by rfl) T.min (by decide +kernel) (pa_cons (pv 12) (pa_cons (pe_dget2 hu (pv 6) (pv 11) (pv 12) ⟨rfl, rfl, rfl, rfl⟩) pa_nil))) rfl)))))))
      (pss_one
      (ps_set (i := 3) nd rfl (Or.inl rfl) (pv 6))))))
    (pss_one
    (ps_ret (pv 3))))), ?_⟩
    have st0 : ∀ {m : Nat} {x : Int}, IsRest (stp pg ps) (loP ps) (hiR r) pg m x → 0 ≤ x ∧ x < ((64 : Nat) : Int) := fun q => by
      have := rest_range ok.pg0 q
      have := ok.pg64
      omega
    refine fun d hd => ⟨by show 0 ≤ sizeLine; decide, fun t0 ht0 => ⟨by show 2 ≤ sizeLine; decide, fun t1 ht1 => ⟨?_, [(.inl 0, .ref t1)], rfl, ?_, ?_⟩⟩⟩
    · exact Evl.Ex.new ht1 _ _ (Evl.Ex.new ht0 _ _ upd_same)
    · show 1 ≤ 15
      decide
    have hd0 : ((upd (upd (upd H d (.dK [])) t0 (.tup [])) t1 (.tup [.int 0, .ref t0])) d) = some (.dK []) := Evl.Ex.new ht1 _ _ (Evl.Ex.new ht0 _ _ upd_same)
    have ex0 : Ex H (upd (upd (upd (upd H d (.dK [])) t0 (.tup [])) t1 (.tup [.int 0, .ref t0])) d (.dK (mergeK [] [(.inl 0, .ref t1)]))) := Evl.Ex.mut ((Evl.Ex.new hd).trans ((Evl.Ex.new ht0).trans (Evl.Ex.new ht1))) hd
    have fd0 : Fd 0 (IsRest (stp pg ps) (loP ps) (hiR r) pg 0) (IsRest (stp pg ps) (loP ps) (hiR r) pg 0) (upd (upd (upd (upd H d (.dK [])) t0 (.tup [])) t1 (.tup [.int 0, .ref t0])) d (.dK (mergeK [] [(.inl 0, .ref t1)]))) (mergeK [] [(.inl 0, .ref t1)]) := by
      refine Fd.mono (mo_dK hd0) ⟨fun kv hkv => ?_, fun x hx => ?_, List.nodup_cons.mpr ⟨fun z => (nomatch z), List.nodup_nil⟩⟩
      · have e : kv = (.inl 0, .ref t1) := List.mem_singleton.mp hkv
        rw [e]
        exact ⟨0, rfl, .zero, t1, t0, 0, [], rfl, upd_same, Evl.Ex.new ht1 _ _ upd_same, rfl⟩
      · cases hx
        exact ⟨_, List.mem_singleton.mpr rfl, rfl⟩
    have hd1 : (upd (upd (upd (upd H d (.dK [])) t0 (.tup [])) t1 (.tup [.int 0, .ref t0])) d (.dK (mergeK [] [(.inl 0, .ref t1)]))) d = some (.dK (mergeK [] [(.inl 0, .ref t1)])) := upd_same
    generalize upd (upd (upd (upd H d (.dK [])) t0 (.tup [])) t1 (.tup [.int 0, .ref t0])) d (.dK (mergeK [] [(.inl 0, .ref t1)])) = H0 at ex0 fd0 hd1 ⊢
    refine ⟨_, rfl, _, rfl, by omega, by have := ok.len; omega, ?_⟩
    refine for_range (lo := 0) (n := ((n : Int)).toNat) (fun i σ H' => ∃ d v4 v5 v6 v7 v8 v9 v10 v11 v12 L, σ = [some (.ref a), some (.int (n : Int)), some z, some (.ref d), v4, v5, v6, v7, v8, v9, v10, v11, v12] ∧ Ex H H' ∧ H d = none ∧ H' d = some (.dK L) ∧ Fd i (IsRest (stp pg ps) (loP ps) (hiR r) pg i) (IsRest (stp pg ps) (loP ps) (hiR r) pg i) H' L) ⟨d, _, _, _, _, _, _, _, _, _, _, rfl, ex0, hd, hd1, fd0⟩ ?_ ?_
    · rintro i σ H1 hi ⟨d, v4, v5, v6, v7, v8, v9, v10, v11, v12, L0, rfl, e1, hd, hdL, fd⟩
      have hi' : i < n := by omega
      obtain ⟨b, hb, hpb⟩ := part_at hP (show i < ps.length by omega)
      refine ⟨_, rfl, a, C, dx, _, _, rfl, e1 _ _ hA, T.cl, T.nQ, planF_parts _ _, _, rfl, t, xs, _, _, rfl, rfl, SqT.of (e1 _ _ hT), at_of (j := i) (by omega) hb, b, _, _, _, rfl, rfl, SqT.of (e1 _ _ hpb), rfl, fun e he => ⟨_, _, rfl, ?_⟩⟩
      have ned : d ≠ e := ne_of_none hdL he
      refine ⟨d, .dK L0, by rw [upd_ne ned]; exact hdL, trivial, fun od => ?_⟩
      have hHe : H e = none := Evl.fresh_back e1 he
      have e2 : Ex H (upd (upd H1 e (.dK [])) d (.frz od (.dK L0))) := Evl.Ex.mut (e1.trans (Evl.Ex.new he)) hd
      have m2 : Mo H1 (upd (upd H1 e (.dK [])) d (.frz od (.dK L0))) := (mo_new he).trans (mo_dK (by rw [upd_ne ned]; exact hdL))
      have q2e : (upd (upd H1 e (.dK [])) d (.frz od (.dK L0))) e = some (.dK []) := by rw [upd_ne (Ne.symm ned)]; exact upd_same
      have q2d : (upd (upd H1 e (.dK [])) d (.frz od (.dK L0))) d = some (.frz od (.dK L0)) := upd_same
      generalize upd (upd H1 e (.dK [])) d (.frz od (.dK L0)) = H2 at e2 m2 q2e q2d ⊢
      refine ⟨_, rfl, d, od, L0, rfl, q2d, ?_⟩
      have fd2 := fd.mono m2
      have hiok : 0 ≤ loP ps i := ok.low i (by omega)
      have hhigh := ok.high i (by omega)
      have hin1 : loP ps i ≤ hiR r i := (hrow.2 i (by omega)).1
      have hin2 : hiR r i ≤ 1000 := Int.le_trans (hrow.2 i (by omega)).2 hhigh
      have hpg := ok.pg64
      have hpg0 := ok.pg0
      have hlen := ok.len
      have S1 := fun x => IsRest (stp pg ps) (loP ps) (hiR r) pg (i + 1) x
      refine for_it walk_items (fun j σ H' => ∃ v7 v8 v9 v10 v11 v12 L, σ = [some (.ref a), some (.int (n : Int)), some z, some (.ref d), some (.int (0 + (i : Int))), some (.int (loP ps i)), some (.ref e), v7, v8, v9, v10, v11, v12] ∧ Ex H H' ∧ Mo H2 H' ∧ H' d = some (.frz od (.dK L0)) ∧ H' e = some (.dK L) ∧ Fd (i + 1) (IsRest (stp pg ps) (loP ps) (hiR r) pg (i + 1)) (fun x => ∃ j' ro kv, j' < j ∧ L0[j']? = some kv ∧ kv.1 = .inl ro ∧ ∃ s, loP ps i ≤ s ∧ s ≤ hiR r i ∧ s ≤ loP ps i + pg - 1 ∧ x = lift (ro + s) (stp pg ps (i + 1)) % pg) H' L)
        ⟨_, _, _, _, _, _, [], rfl, e2, Mo.refl _, q2d, q2e, Fd.nil fun x hx => ?_⟩ (fun j σ H' _ q => ?_) ?_ ?_
      · obtain ⟨j', _, _, hj, _⟩ := hx
        omega
      · obtain ⟨_, _, _, _, _, _, _, _, _, _, q, _⟩ := q
        exact q
      · rintro j x σ H3 H4 hj ⟨v7, v8, v9, v10, v11, v12, L, rfl, e3, m3, q3d, q3e, f3⟩ ⟨T', x', y', rfl, hT', rfl, ex, ey⟩
        obtain ⟨kv, hkv⟩ : ∃ kv, L0[j]? = some kv := ⟨_, List.getElem?_eq_getElem hj⟩
        simp only [hkv, Option.map_some] at ex ey
        obtain ⟨ro, ekv, hro, hsv⟩ := fd2.snd kv (List.mem_of_getElem? hkv)
        cases ex
        cases ey
        obtain ⟨sa, sb, tt, row, esv, hsa, hsb, hrl⟩ := hsv
        rw [ekv, esv]
        have m4 : Mo H2 (upd H3 T' (.tup [kV (.inl ro), .ref sa])) := m3.trans (mo_new hT')
        have e4 : Ex H (upd H3 T' (.tup [kV (.inl ro), .ref sa])) := e3.trans (Evl.Ex.new hT')
        have q4d := Evl.Ex.new (o := .tup [kV (.inl ro), .ref sa]) hT' _ _ q3d
        have q4e := Evl.Ex.new (o := .tup [kV (.inl ro), .ref sa]) hT' _ _ q3e
        have f4 := f3.mono (mo_new (o := .tup [kV (.inl ro), .ref sa]) hT')
        have hTT : (upd H3 T' (.tup [kV (.inl ro), .ref sa])) T' = some (.tup [kV (.inl ro), .ref sa]) := upd_same
        generalize upd H3 T' (.tup [kV (.inl ro), .ref sa]) = H4 at m4 e4 q4d q4e f4 hTT ⊢
        refine ⟨T', _, rfl, SqT.of hTT, rfl, _, _, rfl, _, _, rfl, sa, _, rfl, SqT.of (m4 _ _ hsa trivial), rfl, _, _, rfl, _, _, rfl, rfl, rfl, ?_⟩
        refine ⟨_, rfl, _, rfl, _, rfl, rIx_ints (k := i) (hz.mono e4) (by rw [hrow.1]; omega) (by omega) ?_⟩
        refine ⟨_, rfl, _, rfl, a, C, dx, _, _, rfl, e4 _ _ hA, T.cl, T.nP, planF_page _ _, _, _, rfl, rfl, _, _, rfl, rfl, _, _, rfl, ?_⟩
        obtain ⟨mm, emm⟩ : ∃ mm : Int, mm = (if loP ps i + pg - 1 < hiR r i then loP ps i + pg - 1 else hiR r i) := ⟨_, rfl⟩
        have hm1 : mm ≤ hiR r i := by rw [emm]; split <;> omega
        have hm2 : mm ≤ loP ps i + pg - 1 := by rw [emm]; split <;> omega
        have hm3 : ∀ s, s ≤ hiR r i → s ≤ loP ps i + pg - 1 → s ≤ mm := fun s h1 h2 => by rw [emm]; split <;> assumption
        have hm0 : loP ps i ≤ mm := hm3 _ hin1 (by omega)
        rw [← emm]
        refine ⟨_, _, rfl, rfl, _, _, rfl, ⟨by omega, by omega, by omega, by omega⟩, ?_⟩
        refine for_range (lo := loP ps i) (n := (mm + 1 - loP ps i).toNat) (fun k σ H' => ∃ v10 v11 v12 L, σ = [some (.ref a), some (.int (n : Int)), some z, some (.ref d), some (.int (0 + (i : Int))), some (.int (loP ps i)), some (.ref e), some (.int ro), some (.int tt), some (.ref sb), v10, v11, v12] ∧ Ex H H' ∧ Mo H2 H' ∧ H' d = some (.frz od (.dK L0)) ∧ H' e = some (.dK L) ∧ Fd (i + 1) (IsRest (stp pg ps) (loP ps) (hiR r) pg (i + 1)) (fun x => (∃ j' ro kv, j' < j ∧ L0[j']? = some kv ∧ kv.1 = .inl ro ∧ ∃ s, loP ps i ≤ s ∧ s ≤ hiR r i ∧ s ≤ loP ps i + pg - 1 ∧ x = lift (ro + s) (stp pg ps (i + 1)) % pg) ∨ ∃ s, loP ps i ≤ s ∧ s < loP ps i + (k : Int) ∧ x = lift (ro + s) (stp pg ps (i + 1)) % pg) H' L)
          ⟨_, _, _, L, rfl, e4, m4, q4d, q4e, f4.weak fun x hx => ?_⟩ ?_ ?_
        · rcases hx with hx | ⟨s, h1, h2, _⟩
          · exact hx
          · omega
        · rintro k σ H5 hk ⟨v10, v11, v12, L, rfl, e5, m5, q5d, q5e, f5⟩
          have hP5 := (show PlanV C H (.ref a) pg ps from ⟨a, dx, t, xs, rfl, hA, hT, hP⟩).mono (mo_ex e5)
          refine ⟨_, rfl, _, rfl, _, _, rfl, rfl, _, rfl, _, rfl, _, _, rfl, rfl, .ref a, pg, ps, i + 1, _, by show [V.ref a, V.int (0 + (i : Int) + 1), V.int (ro + (loP ps i + (k : Int)))] = _; rw [show (0 + (i : Int) + 1) = ((i + 1 : Nat) : Int) by omega], hP5, by omega, ok.pos _, fun H6 e6 => ?_⟩
          have m6 := m5.trans (mo_ex e6)
          have e6' := e5.trans e6
          refine ⟨_, rfl, a, C, dx, _, _, rfl, e6' _ _ hA, T.cl, T.nP, planF_page _ _, _, _, rfl, rfl, hpg0, ?_⟩
          have erow : row.map V.int ++ [V.int (loP ps i + (k : Int))] = (row ++ [loP ps i + (k : Int)]).map V.int := by rw [List.map_append]; rfl
          refine ⟨_, rfl, _, rfl, _, _, rfl, rfl, _, rfl, sb, _, rfl, .inl (SqT.of (m6 _ _ hsb trivial)), _, rfl, ?_, fun g hg => ⟨by show 2 ≤ sizeLine; decide, fun o ho => ⟨_, _, rfl, ?_⟩⟩⟩
          · rw [List.length_append, List.length_map, List.length_singleton, hrl, sizeLine_eq]
            omega
          rw [erow]
          rw [erow] at ho
          have hgo : (upd (upd H6 g (.tup ((row ++ [loP ps i + (k : Int)]).map V.int))) o (.tup [.int (tt + (loP ps i + (k : Int))), .ref g])) o = some (.tup [.int (tt + (loP ps i + (k : Int))), .ref g]) := upd_same
          have hgg : (upd (upd H6 g (.tup ((row ++ [loP ps i + (k : Int)]).map V.int))) o (.tup [.int (tt + (loP ps i + (k : Int))), .ref g])) g = some (.tup ((row ++ [loP ps i + (k : Int)]).map V.int)) := Evl.Ex.new ho _ _ upd_same
          have e67 : Ex H6 (upd (upd H6 g (.tup ((row ++ [loP ps i + (k : Int)]).map V.int))) o (.tup [.int (tt + (loP ps i + (k : Int))), .ref g])) := (Evl.Ex.new hg).trans (Evl.Ex.new ho)
          generalize upd (upd H6 g (.tup ((row ++ [loP ps i + (k : Int)]).map V.int))) o (.tup [.int (tt + (loP ps i + (k : Int))), .ref g]) = H7 at hgo hgg e67
          have e57 := e6.trans e67
          have f7 := f5.mono (mo_ex e57)
          have hst : StandV (i + 1) H7 (.ref o) := ⟨o, g, _, _, rfl, hgo, hgg, by rw [List.length_append, hrl]; rfl⟩
          have q7e := e57 _ _ q5e
          have q7d := e57 _ _ q5d
          have hr1 : IsRest (stp pg ps) (loP ps) (hiR r) pg (i + 1) (lift (ro + (loP ps i + (k : Int))) (stp pg ps (i + 1)) % pg) := .succ hro (by omega) (by omega) (by omega)
          refine ⟨_, rfl, _, rfl, e, rfl, .inl ⟨_, .inl q7e⟩, _, rfl, _, rfl, _, DGet.k (k := .inl _) q7e, ?_⟩
          dsimp only [tNil]
          refine rMinD_stand (K := K) hst (f7.get hst) fun zz hzz => ?_
          refine ⟨_, rfl, _, rfl, e, _, rfl, DPut.k (k := .inl _) q7e ?_, ?_⟩
          · have := f7.len (n := 64) (fun r => st0)
            rw [sizeLine_eq]
            omega
          refine ⟨_, _, _, _, rfl, Evl.Ex.mut (e5.trans e57) hHe, (m5.trans (mo_ex e57)).trans (mo_dK q7e), by rw [upd_ne ned]; exact q7d, upd_same, Fd.mono (mo_dK q7e) ((f7.put hr1 hzz).weak fun x hx => ?_)⟩
          rcases hx with hx | ⟨s, h1, h2, h3⟩
          · exact .inl (.inl hx)
          · by_cases q : s < loP ps i + (k : Int)
            · exact .inl (.inr ⟨s, h1, q, h3⟩)
            · refine .inr ?_
              rw [h3, show s = loP ps i + (k : Int) by omega]
        · rintro σ H5 ⟨v10, v11, v12, L, rfl, e5, m5, q5d, q5e, f5⟩
          refine ⟨_, _, _, _, _, _, L, rfl, e5, m5, q5d, q5e, f5.weak fun x hx => ?_⟩
          obtain ⟨j', ro', kv', h1, h2, h3, s, h4, h5, h6, h7⟩ := hx
          rcases Nat.lt_or_ge j' j with q | q
          · exact .inl ⟨j', ro', kv', q, h2, h3, s, h4, h5, h6, h7⟩
          · have : j' = j := by omega
            subst this
            have ek : kv' = kv := Option.some.inj (h2.symm.trans hkv)
            rw [ek, ekv] at h3
            cases h3
            have := hm3 s h5 h6
            exact .inr ⟨s, h4, by omega, h7⟩
      · rintro σ H3 ⟨v7, v8, v9, v10, v11, v12, L, rfl, e3, m3, q3d, q3e, f3⟩
        refine ⟨q3d, _, rfl, ⟨e, _, _, _, _, _, _, _, _, _, L, rfl, Evl.Ex.mut e3 hd, hHe, by rw [upd_ne (Ne.symm ned)]; exact q3e, Fd.mono (mo_frz q3d) (f3.weak fun x hx => ?_)⟩⟩
        obtain ⟨ro, s, h1, h2, h3, h4, rfl⟩ := hx.inv
        obtain ⟨kv, hkv, ek⟩ := fd.cmp ro h1
        obtain ⟨j', hj'⟩ := List.getElem?_of_mem hkv
        exact ⟨j', ro, kv, (List.getElem?_eq_some_iff.mp hj').1, hj', ek, s, h2, h3, h4, rfl⟩
    · rintro σ H' ⟨d, v4, v5, v6, v7, v8, v9, v10, v11, v12, L, rfl, e1, hd, hdL, fd⟩
      rw [Int.toNat_natCast] at fd
      exact ⟨_, rfl, kk H' d L e1 hd hdL fd⟩
end
end Lk
namespace Lk
open PySem PySem.Spec PyProof.Rows L2
open Evl (Ex RetV RetL)
theorem rest_some {pg : Int} {ps : List Part} {r : List Int} {a : Nat} (ok : PlOk pg ps) (hr : RowIn ps r) (ha : a ≤ ps.length) : ∃ x, IsRest (stp pg ps) (loP ps) (hiR r) pg a x :=
  ⟨_, rest_of (sz := loP ps) ok.pg0 ok.dvd a fun k hk => ⟨Int.le_refl _, (hr.2 k (by omega)).1⟩⟩
/-- how far at the farthest -/
def Far (pg : Int) (ps : List Part) (a b : Nat) (far : Int) (r : List Int) : Prop := ∀ sz : Nat → Int, (∀ k, k < b → loP ps k ≤ sz k ∧ sz k ≤ hiR r k) → adr (stp pg ps) sz b - adr (stp pg ps) sz a ≤ far
theorem far_max {pg : Int} {ps : List Part} {r : List Int} {a b : Nat} {far m : Int} (ok : PlOk pg ps) (hr : RowIn ps r) (hab : a < b) (hb : b < ps.length) (h : IsMax (stp pg ps) (loP ps) (hiR r) pg a (b - a) m) : m ≤ far ↔ Far pg ps a b far r := by
  have q := reach_max (far := far) ok.pg0 ok.pos ok.dvd (fun k hk => (hr.2 k (by omega)).1) h
  rw [show a + (b - a) = b by omega] at q
  exact q
section
variable {P : Program} {w : World} {K : PySem.W.Frag} {mg : Str → Option Value} {base : Heap} {C aR aA aP : Addr}
/-! ### reach_at_most -/
def sp_reach_at_most (C : Addr) : Sp := fun vs H Q _ => ∃ (v z : V) (pg : Int) (ps : List Part) (a b : Nat) (r : List Int), vs = [v, .int (a : Int), .int (b : Int), z] ∧ PlanV C H v pg ps ∧ PlOk pg ps ∧ a < b ∧ b < ps.length ∧ IntsV H z r ∧ RowIn ps r ∧
  ∀ m, IsMax (stp pg ps) (loP ps) (hiR r) pg a (b - a) m → RetV (.int m) H Q
theorem sc_reach_at_most : FnScope ["plan", "first", "second", "bounds", "rests", "rest"] ["plan", "first", "second", "bounds"] (defScope s_reach_at_most) := ⟨rfl, rfl, rfl, by decide +kernel, rfl, by decide +kernel, by decide +kernel⟩
theorem ok_reach_at_most (T : Txt K mg C aR aA aP) (D : Dn K mg "reach_at_most" s_reach_at_most) (c_rests_at : Cal P w K mg base 3 "rests_at" (sp_rests_at C)) (c_address_behind : Cal P w K mg base 3 "address_behind" (sp_address_behind C)) : Cal P w K mg base 4 "reach_at_most" (sp_reach_at_most C) := by
  have nd := sc_reach_at_most.nd
  refine cal_mk D sc_reach_at_most (fun _ _ _ _ _ _ us hl => match us, hl with | [_, _, _, _], _ => rfl) (fun vs H Q E h => ?_) (fun f cdv A outer s H vs Q E hr h => ?_)
  · obtain ⟨v, z, pg, ps, a, b, r, rfl, _⟩ := h
    rfl
  · obtain ⟨v, z, pg, ps, a, b, r, rfl, hP, ok, hab, hb, hz, hrow, kk⟩ := h
    refine ⟨_, (pss_cons
    (ps_set (i := 4) nd rfl (Or.inl rfl) (pe_c c_rests_at hr (by decide) rfl (pa_cons (pv 0) (pa_cons (pv 1) (pa_cons (pv 3) pa_nil)))))
    (pss_one
    (ps_ret (pe_callB (cr_max rfl) (by rfl) T.max (by decide +kernel) (pa_cons (pe_lock (pe_lc (own := [("rest", 5)]) rfl nd (pi_keys (pv 4)) (blkOk_by (N := ["plan", "first", "second", "bounds", "rests", "rest"]) (sc := defScope s_reach_at_most) (by decide +kernel)) (fun _ _ _ _ _ => (pg_name (i := 5) nd rfl (Or.inl rfl))) (fun _ _ _ _ _ => pts_nil) (fun _ _ _ _ _ => (pe_op op_sub (pe_c c_address_behind hr (by decide) rfl (pa_cons (pv 0) (pa_cons (pv 1) (pa_cons (pv 2) (pa_cons (pv 5) (pa_cons (pv 3) pa_nil)))))) (pv 5))))) pa_nil))))), ?_⟩
    refine ⟨_, rfl, _, rfl, _, rfl, v, z, pg, ps, a, r, rfl, hP, ok, by omega, hz, hrow, fun H1 d L e1 hd hdL fd => ?_⟩
    have hlen : L.length ≤ 64 := fd.len (n := 64) fun x q => by
      have := rest_range ok.pg0 q
      have := ok.pg64
      omega
    refine ⟨d, .dK L, hdL, trivial, fun od => ?_⟩
    have e2 : Ex H (upd H1 d (.frz od (.dK L))) := Evl.Ex.mut e1 hd
    have q2 : (upd H1 d (.frz od (.dK L))) d = some (.frz od (.dK L)) := upd_same
    generalize upd H1 d (.frz od (.dK L)) = H2 at e2 q2
    refine ⟨_, rfl, d, od, rfl, .inl ⟨L, q2, fun p hp => ?_⟩⟩
    refine lc_pure walk_keys hp (Nat.le_trans hlen (by rw [sizeLine_eq]; decide)) (fun i acc _ => acc = ((L.take i).map fun kv => beh (stp pg ps) (hiR r) a (keyI kv.1) (b - a) - keyI kv.1).map V.int) (fun _ _ _ _ _ q => q) (fun H' e => e _ _ q2) rfl ?_ ?_
    · rintro i x H' H'' acc Kt K0 hi e3 ha ⟨rfl, k, v', hkv, rfl⟩ k1 _
      obtain ⟨ro, ek, hro, _⟩ := fd.snd (k, v') (List.mem_of_getElem? hkv)
      obtain rfl : k = .inl ro := ek
      refine ⟨rfl, yes_ ⟨_, rfl, _, rfl, _, rfl, _, rfl, _, rfl, v, z, pg, ps, a, b, ro, r, rfl, hP.mono (mo_ex (e2.trans e3)), by omega, hb, ok.len, fun k _ => ok.pos k, hz.mono (e2.trans e3), hrow.1, fun H3 e4 => ?_⟩⟩
      refine ⟨_, rfl, _, _, rfl, rfl, k1 _ _ e4 ?_⟩
      rw [take_snoc hkv, List.map_append, ha]
      rfl
    · intro acc H' e3 hacc ha
      rw [List.take_length] at ha
      have nep : p ≠ d := Ne.symm (ne_of_none q2 hp)
      refine ⟨e3 _ _ q2, p, L.map fun kv => beh (stp pg ps) (hiR r) a (keyI kv.1) (b - a) - keyI kv.1, rfl, SqL.of (by rw [upd_ne nep, hacc, ha]), ?_, fun m hm htop => ?_⟩
      · obtain ⟨x, hx⟩ := rest_some ok hrow (a := a) (by omega)
        obtain ⟨kv, hkv, _⟩ := fd.cmp x hx
        rw [List.length_map]
        exact List.length_pos_of_mem hkv
      · refine kk m ⟨?_, fun x hx => ?_⟩ _ (Evl.Ex.mut (e2.trans e3) hd)
        · obtain ⟨kv, hkv, rfl⟩ := List.mem_map.mp hm
          obtain ⟨x, ek, hx, _⟩ := fd.snd kv hkv
          rw [ek]
          exact ⟨x, hx, rfl⟩
        · obtain ⟨kv, hkv, ek⟩ := fd.cmp x hx
          refine htop _ (List.mem_map.mpr ⟨kv, hkv, ?_⟩)
          rw [ek]
          rfl
/-! ### bounds_hold -/
structure TwoOk (ps : List Part) (a b : Nat) : Prop where
  lt : a < b
  in_ : b < ps.length
  words : ∀ k, k < ps.length → WordOk (ps.getD k default).word
  ne : ∀ i j, i < j → j < ps.length → (ps.getD i default).word ≠ (ps.getD j default).word
def sp_bounds_hold (C : Addr) : Sp := fun vs H Q _ => ∃ (v z : V) (pg : Int) (ps : List Part) (a b : Nat) (r : List Int) (far : Int), vs = [v, z, .str (ps.getD a default).word, .str (ps.getD b default).word, .int far] ∧ PlanV C H v pg ps ∧ PlOk pg ps ∧ TwoOk ps a b ∧ IntsV H z r ∧ RowIn ps r ∧
  ∀ q : Bool, (q = true ↔ Far pg ps a b far r) → RetV (.bl q) H Q
theorem sc_bounds_hold : FnScope ["plan", "bounds", "one", "other", "far", "right", "first", "second"] ["plan", "bounds", "one", "other", "far"] (defScope s_bounds_hold) := ⟨rfl, rfl, rfl, by decide +kernel, rfl, by decide +kernel, by decide +kernel⟩
theorem ok_bounds_hold (T : Txt K mg C aR aA aP) (D : Dn K mg "bounds_hold" s_bounds_hold) (c_checked_sizes : Cal P w K mg base 2 "checked_sizes" (sp_checked_sizes C)) (c_checked_two : Cal P w K mg base 3 "checked_two" (sp_checked_two C)) (c_reach_at_most : Cal P w K mg base 4 "reach_at_most" (sp_reach_at_most C)) (c_checked_far : Cal P w K mg base 2 "checked_far" sp_checked_far) : Cal P w K mg base 5 "bounds_hold" (sp_bounds_hold C) := by
  have nd := sc_bounds_hold.nd
  refine cal_mk D sc_bounds_hold (fun _ _ _ _ _ _ us hl => match us, hl with | [_, _, _, _, _], _ => rfl) (fun vs H Q E h => ?_) (fun f cdv A outer s H vs Q E hr h => ?_)
  · obtain ⟨v, z, pg, ps, a, b, r, far, rfl, _⟩ := h
    rfl
  · obtain ⟨v, z, pg, ps, a, b, r, far, rfl, hP, ok, two, hz, hrow, kk⟩ := h
    refine ⟨_, (pss_cons
    (ps_set (i := 5) nd rfl (Or.inl rfl) (pe_c c_checked_sizes hr (by decide) rfl (pa_cons (pv 0) (pa_cons (pv 1) pa_nil))))
    (pss_cons
    (ps_asg (pe_c c_checked_two hr (by decide) rfl (pa_cons (pv 0) (pa_cons (pv 2) (pa_cons (pv 3) pa_nil)))) (pg_tup rfl (pgs_cons (pg_name (i := 6) nd rfl (Or.inl rfl)) (pgs_cons (pg_name (i := 7) nd rfl (Or.inl rfl)) pgs_nil))))
    (pss_one
    (ps_ret (pe_cmpR op_le (pe_c c_reach_at_most hr (by decide) rfl (pa_cons (pv 0) (pa_cons (pv 6) (pa_cons (pv 7) (pa_cons (pv 5) pa_nil))))) (pe_c c_checked_far hr (by decide) rfl (pa_cons (pv 4) pa_nil)) (nomark _)))))), ?_⟩
    refine ⟨_, rfl, _, rfl, v, z, pg, ps, r, rfl, hP, hz, hrow.1, ok.len, hrow.2, fun l H1 hl e1 q1 => ?_⟩
    refine ⟨_, rfl, _, rfl, _, rfl, v, pg, ps, a, b, rfl, hP.mono (mo_ex e1), two.lt, two.in_, two.words, two.ne, fun H2 p e2 q2 => ?_⟩
    refine ⟨p, _, rfl, SqT.of q2, rfl, _, _, rfl, _, _, rfl, rfl, ?_⟩
    have e12 := e1.trans e2
    refine ⟨_, rfl, _, rfl, _, rfl, _, rfl, v, .ref l, pg, ps, a, b, r, rfl, hP.mono (mo_ex e12), ok, two.lt, two.in_, ⟨l, rfl, .inl (e2 _ _ q1)⟩, hrow, fun m hm H3 e3 => ?_⟩
    refine ⟨_, rfl, far, rfl, fun H4 e4 => ⟨_, _, rfl, rfl, kk _ ?_ _ (e12.trans (e3.trans e4))⟩⟩
    rw [decide_eq_true_eq]
    exact far_max ok hrow two.lt two.in_ hm
end
end Lk
namespace Lk
open PySem PySem.Spec PyProof.Rows L2
open Evl (Ex RetV RetL)
theorem walk_zipT {K : PySem.W.Frag} {a b : Addr} {xs ys : List V} {n : Nat} (hn : n = min xs.length ys.length) : Walk (RZ.ItzT K a b) n (fun H => SqT K H a xs ∧ SqT K H b ys) (YPair (fun i => xs[i]?) (fun i => ys[i]?)) := by
  subst hn
  refine ⟨fun i _ hi q => ?_, fun _ q => ⟨xs, ys, q.1, q.2, by omega⟩, fun i H v H' _ q y => ?_⟩
  · have h1 : i < xs.length := by omega
    have h2 : i < ys.length := by omega
    exact ⟨xs, ys, xs[i], ys[i], q.1, q.2, by simp [h1], by simp [h2]⟩
  · obtain ⟨T, x, z, h1, h2, h3, h4, h5⟩ := y
    exact ⟨T, x, z, h1, h2, h3, h4 xs q.1, h5 ys q.2⟩
theorem pg_tupK {X : Cx} {pos : Pos} {es : List Expr} {k : Nat} {t : TGs} {n : Nat} {K : PySem.W.Frag} (hK : X.K = K) (hc : X.calm = true) (h : PGs X es t)
    (hn : (assignEach es X.env).length = n := by rfl) (hst : (assignEach es X.env).findIdx? (·.1) = none := by rfl) : PG X (.Tuple es k pos) (gTup K n t) := by
  subst hK
  exact pg_tup hc h hn hst
theorem get_D {r : List Int} {i : Nat} (h : i < r.length) : r[i]? = some (r.getD i 0) := by
  rw [List.getD_eq_getElem?_getD, List.getElem?_eq_getElem h]
  rfl
def leqs (r s : List Int) : List Bool := (r.zip s).map fun p => decide (p.1 ≤ p.2)
theorem leqs_all : ∀ r s : List Int, (leqs r s).all id = below r s
  | [], _ => by unfold below; rfl
  | _ :: _, [] => by unfold below; rfl
  | x :: xs, y :: ys => by
    have ih := leqs_all xs ys
    unfold leqs at ih ⊢
    rw [List.zip_cons_cons, List.map_cons, List.all_cons, ih]
    rfl
/-! ### lists of rows -/
def RowsV (H : Hp) (p : Addr) (rs : List (List Int)) : Prop := ∃ xs, H p = some (.lst xs) ∧ Paired (RowV H) xs rs
theorem RowsV.mono {H H' : Hp} {p : Addr} {rs : List (List Int)} (e : Ex H H') (h : RowsV H p rs) : RowsV H' p rs := let ⟨xs, h1, h2⟩ := h; ⟨xs, e _ _ h1, pd_mono h2 fun _ _ q => q.mono (mo_ex e)⟩
/-- a new list of rows comes back -/
def RetRows (rs : List (List Int)) (H : Hp) (Q : VK) : Prop := ∀ p H', H p = none → Ex H H' → RowsV H' p rs → Q (.ref p) H'
theorem wides_snoc (zs : List (Int × Int)) (z : Int × Int) : wides (zs ++ [z]) = wides zs * (z.2 + 1 - z.1).toNat := by
  unfold wides
  rw [List.foldl_append]
  rfl
theorem wides_pos {zs : List (Int × Int)} (h : ∀ z ∈ zs, z.1 ≤ z.2) : 0 < wides zs := by
  induction zs using snoc_ind with
  | h0 => exact Nat.zero_lt_one
  | h1 l z ih =>
    rw [wides_snoc]
    have := h z (List.mem_append_right _ (List.mem_singleton.mpr rfl))
    exact Nat.mul_pos (ih fun y hy => h y (List.mem_append_left _ hy)) (by omega)
theorem wides_app : ∀ {zs ws : List (Int × Int)}, (∀ z ∈ ws, z.1 ≤ z.2) → wides zs ≤ wides (zs ++ ws)
  | zs, [], _ => by rw [List.append_nil]; exact Nat.le_refl _
  | zs, w :: ws, h => by
    have ih := wides_app (zs := zs ++ [w]) (ws := ws) fun z hz => h z (List.mem_cons_of_mem _ hz)
    rw [List.append_assoc] at ih
    refine Nat.le_trans ?_ ih
    rw [wides_snoc]
    have := h w (List.mem_cons_self ..)
    exact Nat.le_mul_of_pos_right _ (by omega)
theorem wides_take {zs : List (Int × Int)} (h : ∀ z ∈ zs, z.1 ≤ z.2) (i : Nat) : wides (zs.take i) ≤ wides zs := by
  have q := wides_app (zs := zs.take i) (ws := zs.drop i) fun z hz => h z (List.mem_of_mem_drop hz)
  rwa [List.take_append_drop] at q
theorem grow_snoc (rs : List (List Int)) (r : List Int) (l m : Int) : grow (rs ++ [r]) l m = grow rs l m ++ (spread l m).map fun x => r ++ [x] := by
  unfold grow
  rw [List.flatMap_append]
  simp
theorem grow_take {rs : List (List Int)} {i : Nat} {r : List Int} {l m : Int} (h : rs[i]? = some r) : grow (rs.take (i + 1)) l m = grow (rs.take i) l m ++ (spread l m).map fun x => r ++ [x] := by
  rw [List.take_add_one, h]
  exact grow_snoc _ _ _ _
theorem spread_len (l m : Int) : (spread l m).length = (m + 1 - l).toNat := by
  unfold spread
  rw [List.length_map, List.length_range]
theorem spread_get {l m : Int} {i : Nat} (h : i < (m + 1 - l).toNat) : (spread l m)[i]? = some (l + (i : Int)) := by
  unfold spread
  rw [List.getElem?_map, List.getElem?_range h]
  rfl
theorem pd_app_row {H : Hp} {p : Addr} {r : List Int} {x : Int} (h : H p = some (.tup (r.map V.int ++ [.int x]))) : RowV H (.ref p) (r ++ [x]) := ⟨p, rfl, by rw [h, List.map_append]; rfl⟩
/-- ranges that are in order -/
structure ZsOk (zs : List (Int × Int)) : Prop where
  len : zs.length ≤ 60
  low : ∀ z ∈ zs, 0 ≤ z.1
  mid : ∀ z ∈ zs, z.1 ≤ z.2
  high : ∀ z ∈ zs, z.2 ≤ 1000
  wide : wides zs ≤ 60
def sp_below : Sp := fun vs H Q _ => ∃ (x y : V) (r s : List Int), vs = [x, y] ∧ RowV H x r ∧ RowV H y s ∧ r.length = s.length ∧ r.length ≤ 1000 ∧ RetV (.bl (below r s)) H Q
def sp_rows : Sp := fun vs H Q _ => ∃ (a b : Addr) (zs : List (Int × Int)), vs = [.ref a, .ref b] ∧ H a = some (.lst (zs.map fun z => V.int z.1)) ∧ H b = some (.lst (zs.map fun z => V.int z.2)) ∧ ZsOk zs ∧ RetRows (rowsZ zs) H Q
theorem rowsZ_take {zs : List (Int × Int)} {i : Nat} {z : Int × Int} (h : zs[i]? = some z) : rowsZ (zs.take (i + 1)) = grow (rowsZ (zs.take i)) z.1 z.2 := by
  rw [List.take_add_one, h]
  exact rowsZ_snoc _ _
section
variable {P : Program} {w : World} {K : PySem.W.Frag} {mg : Str → Option Value} {base : Heap} {C aR aA aP : Addr}
/-! ### is_within -/
theorem sc_is_within : FnScope ["one", "other", "number", "most"] ["one", "other"] (defScope s_is_within) := ⟨rfl, rfl, rfl, by decide +kernel, rfl, by decide +kernel, by decide +kernel⟩
theorem ok_is_within (T : Txt K mg C aR aA aP) (D : Dn K mg "is_within" s_is_within) : Cal P w K mg base 1 "is_within" sp_below := by
  have nd := sc_is_within.nd
  refine cal_mk D sc_is_within (fun _ _ _ _ _ _ us hl => match us, hl with | [_, _], _ => rfl) (fun vs H Q E h => ?_) (fun f cdv A outer s H vs Q E hr h => ?_)
  · obtain ⟨x, y, r, s, rfl, _⟩ := h
    rfl
  · obtain ⟨x, y, r, s, rfl, ⟨a, rfl, ha⟩, ⟨b, rfl, hb⟩, hl, hl2, kk⟩ := h
    refine ⟨_, (pss_one
    (ps_ret (pe_callB (cr_all rfl) (by rfl) T.all (by decide +kernel) (pa_cons (pe_lc (own := [("number", 2), ("most", 3)]) rfl nd (RZ.pi_zipA (by rfl) T.zip (pa_cons (pv 0) (pa_cons (pv 1) pa_nil))) (blkOk_by (N := ["one", "other", "number", "most"]) (sc := defScope s_is_within) (by decide +kernel)) (fun _ _ _ _ _ => (pg_tupK (n := 2) (K := K) rfl rfl (pgs_cons (pg_name (i := 2) nd rfl (Or.inl rfl)) (pgs_cons (pg_name (i := 3) nd rfl (Or.inl rfl)) pgs_nil)))) (fun _ _ _ _ _ => pts_nil) (fun _ _ _ _ _ => (pe_cmpR op_le (pv 2) (pv 3) (nomark _)))) pa_nil)))), ?_⟩
    refine ⟨_, rfl, _, rfl, a, b, r.map V.int, s.map V.int, rfl, .inr ⟨SqT.of ha, SqT.of hb, fun p hp => ?_⟩⟩
    refine lc_pure (walk_zipT (n := r.length) (by rw [List.length_map, List.length_map]; omega)) hp (by rw [sizeLine_eq]; omega) (fun i acc _ => acc = (((r.zip s).take i).map fun p => decide (p.1 ≤ p.2)).map V.bl) (fun _ _ _ _ _ q => q) (fun H' e => ⟨SqT.of (e _ _ ha), SqT.of (e _ _ hb)⟩) rfl ?_ ?_
    · rintro i x H' H'' acc Kt K0 hi e1 hacc ⟨T', x', y', rfl, hT', rfl, ex, ey⟩ k1 _
      have ex0 : (r.map V.int)[i]? = some x' := ex
      have ey0 : (s.map V.int)[i]? = some y' := ey
      rw [ints_at hi] at ex0
      rw [ints_at (by omega)] at ey0
      cases ex0
      cases ey0
      refine ⟨T', _, rfl, SqT.of upd_same, rfl, _, _, rfl, _, _, rfl, rfl, rfl, yes_ ⟨_, rfl, _, rfl, _, _, rfl, rfl, k1 _ _ (Evl.Ex.new hT') ?_⟩⟩
      have hz : (r.zip s)[i]? = some (r.getD i 0, s.getD i 0) := by
        rw [List.getElem?_zip_eq_some]
        exact ⟨get_D hi, get_D (by omega)⟩
      rw [take_snoc hz, List.map_append, hacc]
      rfl
    · intro acc H' e1 hacc ha'
      refine ⟨p, leqs r s, rfl, SqL.of ?_, ?_⟩
      · rw [hacc, ha', List.take_of_length_le (by rw [List.length_zip]; omega)]
        rfl
      · rw [leqs_all]
        exact kk _ e1
/-! ### _law_is_below -/
theorem sc_law_is_below : FnScope ["_law_one", "_law_other", "_law_x", "_law_y"] ["_law_one", "_law_other"] (defScope s_law_is_below) := ⟨rfl, rfl, rfl, by decide +kernel, rfl, by decide +kernel, by decide +kernel⟩
theorem ok_law_is_below (T : Txt K mg C aR aA aP) (D : Dn K mg "_law_is_below" s_law_is_below) : Cal P w K mg base 1 "_law_is_below" sp_below := by
  have nd := sc_law_is_below.nd
  refine cal_mk D sc_law_is_below (fun _ _ _ _ _ _ us hl => match us, hl with | [_, _], _ => rfl) (fun vs H Q E h => ?_) (fun f cdv A outer s H vs Q E hr h => ?_)
  · obtain ⟨x, y, r, s, rfl, _⟩ := h
    rfl
  · obtain ⟨x, y, r, s, rfl, ⟨a, rfl, ha⟩, ⟨b, rfl, hb⟩, hl, hl2, kk⟩ := h
    refine ⟨_, (pss_one
    (ps_ret (pe_callB (cr_all rfl) (by rfl) T.all (by decide +kernel) (pa_cons (pe_lc (own := [("_law_x", 2), ("_law_y", 3)]) rfl nd (RZ.pi_zipA (by rfl) T.zip (pa_cons (pv 0) (pa_cons (pv 1) pa_nil))) (blkOk_by (N := ["_law_one", "_law_other", "_law_x", "_law_y"]) (sc := defScope s_law_is_below) (by decide +kernel)) (fun _ _ _ _ _ => (pg_tupK (n := 2) (K := K) rfl rfl (pgs_cons (pg_name (i := 2) nd rfl (Or.inl rfl)) (pgs_cons (pg_name (i := 3) nd rfl (Or.inl rfl)) pgs_nil)))) (fun _ _ _ _ _ => pts_nil) (fun _ _ _ _ _ => (pe_cmpR op_le (pv 2) (pv 3) (nomark _)))) pa_nil)))), ?_⟩
    refine ⟨_, rfl, _, rfl, a, b, r.map V.int, s.map V.int, rfl, .inr ⟨SqT.of ha, SqT.of hb, fun p hp => ?_⟩⟩
    refine lc_pure (walk_zipT (n := r.length) (by rw [List.length_map, List.length_map]; omega)) hp (by rw [sizeLine_eq]; omega) (fun i acc _ => acc = (((r.zip s).take i).map fun p => decide (p.1 ≤ p.2)).map V.bl) (fun _ _ _ _ _ q => q) (fun H' e => ⟨SqT.of (e _ _ ha), SqT.of (e _ _ hb)⟩) rfl ?_ ?_
    · rintro i x H' H'' acc Kt K0 hi e1 hacc ⟨T', x', y', rfl, hT', rfl, ex, ey⟩ k1 _
      have ex0 : (r.map V.int)[i]? = some x' := ex
      have ey0 : (s.map V.int)[i]? = some y' := ey
      rw [ints_at hi] at ex0
      rw [ints_at (by omega)] at ey0
      cases ex0
      cases ey0
      refine ⟨T', _, rfl, SqT.of upd_same, rfl, _, _, rfl, _, _, rfl, rfl, rfl, yes_ ⟨_, rfl, _, rfl, _, _, rfl, rfl, k1 _ _ (Evl.Ex.new hT') ?_⟩⟩
      have hz : (r.zip s)[i]? = some (r.getD i 0, s.getD i 0) := by
        rw [List.getElem?_zip_eq_some]
        exact ⟨get_D hi, get_D (by omega)⟩
      rw [take_snoc hz, List.map_append, hacc]
      rfl
    · intro acc H' e1 hacc ha'
      refine ⟨p, leqs r s, rfl, SqL.of ?_, ?_⟩
      · rw [hacc, ha', List.take_of_length_le (by rw [List.length_zip]; omega)]
        rfl
      · rw [leqs_all]
        exact kk _ e1
/-! ### rows_between -/
theorem sc_rows_between : FnScope ["low", "high", "found", "least", "most", "longer", "row", "number"] ["low", "high"] (defScope s_rows_between) := ⟨rfl, rfl, rfl, by decide +kernel, rfl, by decide +kernel, by decide +kernel⟩
theorem ok_rows_between (T : Txt K mg C aR aA aP) (D : Dn K mg "rows_between" s_rows_between) : Cal P w K mg base 1 "rows_between" sp_rows := by
  have nd := sc_rows_between.nd
  refine cal_mk D sc_rows_between (fun _ _ _ _ _ _ us hl => match us, hl with | [_, _], _ => rfl) (fun vs H Q E h => ?_) (fun f cdv A outer s H vs Q E hr h => ?_)
  · obtain ⟨a, b, zs, rfl, _⟩ := h
    rfl
  · obtain ⟨a, b, zs, rfl, ha, hb, ok, kk⟩ := h
    refine ⟨_, (pss_cons
    (ps_set (i := 2) nd rfl (Or.inl rfl) (pe_lst (pa_cons (pe_tup pa_nil) pa_nil)))
    (pss_cons
    (ps_for PassesOwn.never rfl (RZ.pi_zipA (by rfl) T.zip (pa_cons (pv 0) (pa_cons (pv 1) pa_nil))) (pg_tup rfl (pgs_cons (pg_name (i := 3) nd rfl (Or.inl rfl)) (pgs_cons (pg_name (i := 4) nd rfl (Or.inl rfl)) pgs_nil)))
      (pss_cons
      (ps_set (i := 5) nd rfl (Or.inl rfl) (pe_lst pa_nil))
      (pss_cons
      (ps_for PassesOwn.never rfl (pi_listK (K := K) rfl (pv 2)) (pg_name (i := 6) nd rfl (Or.inr rfl))
        (pss_one
        (ps_expr (pe_bm PySem.F.plainAttrs_list PySem.F.slot_list_extend PySem.F.type_list_extend mt_extend (pv 5) (pa_cons (pe_lc (own := [("number", 7)]) rfl nd (pi_range2 (by rfl) T.range (pa_cons (pv 3) (pa_cons (pe_op op_add (pv 4) pe_int) pa_nil))) (blkOk_by (N := ["low", "high", "found", "least", "most", "longer", "row", "number"]) (sc := defScope s_rows_between) (by decide +kernel)) (fun _ _ _ _ _ => (pg_name (i := 7) nd rfl (Or.inl rfl))) (fun _ _ _ _ _ => pts_nil) (fun _ _ _ _ _ => (pe_tup (pa_starK (K := K) rfl (pv 6) (pa_cons (pv 7) pa_nil))))) pa_nil)))))
      (pss_one
      (ps_set (i := 2) nd rfl (Or.inl rfl) (pv 5))))))
    (pss_one
    (ps_ret (pv 2))))), ?_⟩
    refine ⟨by show 0 ≤ sizeLine; decide, fun t ht => ⟨by show 1 ≤ sizeLine; decide, fun p hp => ?_⟩⟩
    have e0 : Ex H (upd (upd H t (.tup [])) p (.lst [.ref t])) := (Evl.Ex.new ht).trans (Evl.Ex.new hp)
    have hlen := ok.len
    refine ⟨_, rfl, _, rfl, a, b, zs.map fun z => V.int z.1, zs.map fun z => V.int z.2, rfl, .inl ⟨SqL.of (e0 _ _ ha), SqL.of (e0 _ _ hb), ?_⟩⟩
    refine for_it (walk_zip (xs := zs.map fun z => V.int z.1) (ys := zs.map fun z => V.int z.2) (n := zs.length) (by rw [List.length_map, List.length_map]; omega)) (fun i σ H' => ∃ p v3 v4 v5 v6 v7, σ = [some (.ref a), some (.ref b), some (.ref p), v3, v4, v5, v6, v7] ∧ Ex H H' ∧ H p = none ∧ RowsV H' p (rowsZ (zs.take i))) ⟨p, _, _, _, _, _, rfl, e0, Evl.fresh_back (Evl.Ex.new ht) hp, _, upd_same, .cons ⟨t, rfl, Evl.Ex.new hp _ _ upd_same⟩ .nil⟩ (fun i σ H' _ q => ?_) ?_ ?_
    · obtain ⟨_, _, _, _, _, _, _, e, _⟩ := q
      exact ⟨SqL.of (e _ _ ha), SqL.of (e _ _ hb)⟩
    · rintro i x σ H1 H2 hi ⟨p, v3, v4, v5, v6, v7, rfl, e1, hp, hrows⟩ ⟨T', x', y', rfl, hT', rfl, ex, ey⟩
      have ex0 : (zs.map fun z => V.int z.1)[i]? = some x' := ex
      have ey0 : (zs.map fun z => V.int z.2)[i]? = some y' := ey
      obtain ⟨z, hz⟩ : ∃ z, zs[i]? = some z := ⟨_, List.getElem?_eq_getElem hi⟩
      have hmem := List.mem_of_getElem? hz
      have hz1 := ok.low z hmem
      have hz2 := ok.mid z hmem
      have hz3 := ok.high z hmem
      rw [List.getElem?_map, hz] at ex0 ey0
      cases ex0
      cases ey0
      have e2 := e1.trans (Evl.Ex.new (o := .tup [.int z.1, .int z.2]) hT')
      have hrows2 := hrows.mono (Evl.Ex.new (o := .tup [.int z.1, .int z.2]) hT')
      have hTT : (upd H1 T' (.tup [.int z.1, .int z.2])) T' = some (.tup [.int z.1, .int z.2]) := upd_same
      generalize upd H1 T' (.tup [.int z.1, .int z.2]) = H2 at e2 hrows2 hTT
      refine ⟨T', _, rfl, SqT.of hTT, rfl, _, _, rfl, _, _, rfl, rfl, by show 0 ≤ sizeLine; decide, fun q hq => ?_⟩
      have hHq : H q = none := Evl.fresh_back e2 hq
      have e3 := e2.trans (Evl.Ex.new (o := .lst []) hq)
      have hrows3 := hrows2.mono (Evl.Ex.new (o := .lst []) hq)
      have hqq : (upd H2 q (.lst [])) q = some (.lst []) := upd_same
      obtain ⟨xs, hxs, hpd⟩ := hrows3
      have nepq : p ≠ q := by
        obtain ⟨_, h, _⟩ := hrows2
        exact ne_of_none h hq
      generalize upd H2 q (.lst []) = H3 at e3 hqq hxs hpd
      have hpl := pd_len hpd
      have hw1 : (rowsZ (zs.take i)).length ≤ 60 := by
        rw [rowsZ_len]
        exact Nat.le_trans (wides_take ok.mid i) ok.wide
      have hw2 : (grow (rowsZ (zs.take i)) z.1 z.2).length ≤ 60 := by
        rw [← rowsZ_take hz, rowsZ_len]
        exact Nat.le_trans (wides_take ok.mid _) ok.wide
      refine ⟨_, rfl, p, rfl, ⟨xs, SqL.of hxs⟩, ?_⟩
      refine for_it (walk_list (xs := xs)) (fun j σ H' => ∃ v6 v7 ys, σ = [some (.ref a), some (.ref b), some (.ref p), some (.int z.1), some (.int z.2), some (.ref q), v6, v7] ∧ Ex H H' ∧ Mo H3 H' ∧ H' p = some (.lst xs) ∧ H' q = some (.lst ys) ∧ Paired (RowV H') ys (grow ((rowsZ (zs.take i)).take j) z.1 z.2)) ⟨_, _, [], rfl, e3, Mo.refl _, hxs, hqq, by rw [List.take_zero]; exact .nil⟩ (fun j σ H' _ qq => ?_) ?_ ?_
      · obtain ⟨_, _, _, _, _, _, h, _⟩ := qq
        exact SqL.of h
      · rintro j x σ H4 H5 hj ⟨v6, v7, ys, rfl, e4, m4, h4p, h4q, hpd4⟩ ⟨rfl, hx⟩
        obtain ⟨row, hrow, u, rfl, hu⟩ := pd_get hpd hx
        have hu4 := m4 _ _ hu trivial
        have hrl : row.length ≤ 60 := by
          have := inZ_len (mem_rowsZ.mp (List.mem_of_getElem? hrow))
          rw [this, List.length_take]
          omega
        have hyl := pd_len hpd4
        refine ⟨_, rfl, .inl ⟨rfl, ys, SqL.of h4q⟩, _, rfl, _, rfl, _, _, rfl, rfl, _, _, rfl, ⟨by omega, by omega, by omega, by omega⟩, fun o ho => ?_⟩
        refine lc_pure walk_range ho (by rw [sizeLine_eq]; omega) (fun i acc H' => Paired (RowV H') acc (((spread z.1 z.2).take i).map fun x => row ++ [x])) (fun _ _ _ _ m qq => pd_mono qq fun _ _ h => h.mono m) (fun _ _ => trivial) (by rw [List.take_zero]; exact .nil) ?_ ?_
        · rintro k x H5 H6 acc Kt K0 hk e5 ha5 ⟨rfl, rfl⟩ k1 _
          have hu5 := e5 _ _ hu4
          refine ⟨rfl, yes_ ⟨_, rfl, u, _, rfl, .inl (SqT.of hu5), _, rfl, by rw [List.length_append, List.length_map, List.length_singleton, sizeLine_eq]; omega, fun o6 ho6' => k1 _ _ (Evl.Ex.new ho6') ?_⟩⟩
          · have eo := Evl.Ex.new (o := .tup (row.map V.int ++ [V.int (z.1 + (k : Int))])) ho6'
            have ho6 : (upd H6 o6 (.tup (row.map V.int ++ [V.int (z.1 + (k : Int))]))) o6 = some (.tup (row.map V.int ++ [V.int (z.1 + (k : Int))])) := upd_same
            rw [take_snoc (spread_get hk)]
            exact pd_snoc (pd_mono ha5 fun _ _ h => h.mono (mo_ex eo)) (pd_app_row ho6)
        · intro acc H6 e6 hacc ha6
          have hspl : (spread z.1 z.2).take (z.2 + 1 - z.1).toNat = spread z.1 z.2 := by
            rw [← spread_len]
            exact List.take_length
          rw [hspl] at ha6
          have hal := pd_len ha6
          rw [List.length_map, spread_len] at hal
          have h6q := e6 _ _ h4q
          have hyy : ys.length + acc.length ≤ 120 := by
            have q1 : ys.length ≤ 60 := by
              rw [hyl]
              refine Nat.le_trans ?_ hw2
              rw [grow_len, grow_len, List.length_take]
              exact Nat.mul_le_mul_right _ (Nat.min_le_right _ _)
            have q2 : (z.2 + 1 - z.1).toNat ≤ 60 := by
              refine Nat.le_trans ?_ hw2
              rw [grow_len]
              exact Nat.le_mul_of_pos_left _ (Nat.lt_of_le_of_lt (Nat.zero_le _) (List.getElem?_eq_some_iff.mp hrow).1)
            omega
          refine ⟨q, o, ys, acc, rfl, rfl, h6q, hacc, by rw [sizeLine_eq]; omega, ?_⟩
          refine ⟨_, _, _, rfl, Evl.Ex.mut (e4.trans e6) hHq, (m4.trans (mo_ex e6)).trans (mo_lst h6q), by rw [upd_ne nepq]; exact e6 _ _ h4p, upd_same, ?_⟩
          rw [grow_take hrow]
          exact pd_mono (pd_app (pd_mono hpd4 fun _ _ h => h.mono (mo_ex e6)) ha6) fun _ _ h => h.mono (mo_lst h6q)
      · rintro σ H4 ⟨v6, v7, ys, rfl, e4, m4, h4p, h4q, hpd4⟩
        refine ⟨_, rfl, q, _, _, _, _, _, rfl, e4, hHq, ys, h4q, ?_⟩
        rw [rowsZ_take hz]
        rw [hpl, List.take_length] at hpd4
        exact hpd4
    · rintro σ H1 ⟨p, v3, v4, v5, v6, v7, rfl, e1, hp, hrows⟩
      rw [List.take_length] at hrows
      exact ⟨_, rfl, kk _ _ hp e1 hrows⟩
/-! ### _law_rows -/
theorem sc_law_rows : FnScope ["_law_low", "_law_high", "_law_found", "_law_least", "_law_most", "_law_longer", "_law_row", "_law_number"] ["_law_low", "_law_high"] (defScope s_law_rows) := ⟨rfl, rfl, rfl, by decide +kernel, rfl, by decide +kernel, by decide +kernel⟩
theorem ok_law_rows (T : Txt K mg C aR aA aP) (D : Dn K mg "_law_rows" s_law_rows) : Cal P w K mg base 1 "_law_rows" sp_rows := by
  have nd := sc_law_rows.nd
  refine cal_mk D sc_law_rows (fun _ _ _ _ _ _ us hl => match us, hl with | [_, _], _ => rfl) (fun vs H Q E h => ?_) (fun f cdv A outer s H vs Q E hr h => ?_)
  · obtain ⟨a, b, zs, rfl, _⟩ := h
    rfl
  · obtain ⟨a, b, zs, rfl, ha, hb, ok, kk⟩ := h
    refine ⟨_, (pss_cons
    (ps_set (i := 2) nd rfl (Or.inl rfl) (pe_lst (pa_cons (pe_tup pa_nil) pa_nil)))
    (pss_cons
    (ps_for PassesOwn.never rfl (RZ.pi_zipA (by rfl) T.zip (pa_cons (pv 0) (pa_cons (pv 1) pa_nil))) (pg_tup rfl (pgs_cons (pg_name (i := 3) nd rfl (Or.inl rfl)) (pgs_cons (pg_name (i := 4) nd rfl (Or.inl rfl)) pgs_nil)))
      (pss_cons
      (ps_set (i := 5) nd rfl (Or.inl rfl) (pe_lst pa_nil))
      (pss_cons
      (ps_for PassesOwn.never rfl (pi_listK (K := K) rfl (pv 2)) (pg_name (i := 6) nd rfl (Or.inr rfl))
        (pss_one
        (ps_expr (pe_bm PySem.F.plainAttrs_list PySem.F.slot_list_extend PySem.F.type_list_extend mt_extend (pv 5) (pa_cons (pe_lc (own := [("_law_number", 7)]) rfl nd (pi_range2 (by rfl) T.range (pa_cons (pv 3) (pa_cons (pe_op op_add (pv 4) pe_int) pa_nil))) (blkOk_by (N := ["_law_low", "_law_high", "_law_found", "_law_least", "_law_most", "_law_longer", "_law_row", "_law_number"]) (sc := defScope s_law_rows) (by decide +kernel)) (fun _ _ _ _ _ => (pg_name (i := 7) nd rfl (Or.inl rfl))) (fun _ _ _ _ _ => pts_nil) (fun _ _ _ _ _ => (pe_op (r := rCatA K) op_catA (pv 6) (pe_tup (pa_cons (pv 7) pa_nil))))) pa_nil)))))
      (pss_one
      (ps_set (i := 2) nd rfl (Or.inl rfl) (pv 5))))))
    (pss_one
    (ps_ret (pv 2))))), ?_⟩
    refine ⟨by show 0 ≤ sizeLine; decide, fun t ht => ⟨by show 1 ≤ sizeLine; decide, fun p hp => ?_⟩⟩
    have e0 : Ex H (upd (upd H t (.tup [])) p (.lst [.ref t])) := (Evl.Ex.new ht).trans (Evl.Ex.new hp)
    have hlen := ok.len
    refine ⟨_, rfl, _, rfl, a, b, zs.map fun z => V.int z.1, zs.map fun z => V.int z.2, rfl, .inl ⟨SqL.of (e0 _ _ ha), SqL.of (e0 _ _ hb), ?_⟩⟩
    refine for_it (walk_zip (xs := zs.map fun z => V.int z.1) (ys := zs.map fun z => V.int z.2) (n := zs.length) (by rw [List.length_map, List.length_map]; omega)) (fun i σ H' => ∃ p v3 v4 v5 v6 v7, σ = [some (.ref a), some (.ref b), some (.ref p), v3, v4, v5, v6, v7] ∧ Ex H H' ∧ H p = none ∧ RowsV H' p (rowsZ (zs.take i))) ⟨p, _, _, _, _, _, rfl, e0, Evl.fresh_back (Evl.Ex.new ht) hp, _, upd_same, .cons ⟨t, rfl, Evl.Ex.new hp _ _ upd_same⟩ .nil⟩ (fun i σ H' _ q => ?_) ?_ ?_
    · obtain ⟨_, _, _, _, _, _, _, e, _⟩ := q
      exact ⟨SqL.of (e _ _ ha), SqL.of (e _ _ hb)⟩
    · rintro i x σ H1 H2 hi ⟨p, v3, v4, v5, v6, v7, rfl, e1, hp, hrows⟩ ⟨T', x', y', rfl, hT', rfl, ex, ey⟩
      have ex0 : (zs.map fun z => V.int z.1)[i]? = some x' := ex
      have ey0 : (zs.map fun z => V.int z.2)[i]? = some y' := ey
      obtain ⟨z, hz⟩ : ∃ z, zs[i]? = some z := ⟨_, List.getElem?_eq_getElem hi⟩
      have hmem := List.mem_of_getElem? hz
      have hz1 := ok.low z hmem
      have hz2 := ok.mid z hmem
      have hz3 := ok.high z hmem
      rw [List.getElem?_map, hz] at ex0 ey0
      cases ex0
      cases ey0
      have e2 := e1.trans (Evl.Ex.new (o := .tup [.int z.1, .int z.2]) hT')
      have hrows2 := hrows.mono (Evl.Ex.new (o := .tup [.int z.1, .int z.2]) hT')
      have hTT : (upd H1 T' (.tup [.int z.1, .int z.2])) T' = some (.tup [.int z.1, .int z.2]) := upd_same
      generalize upd H1 T' (.tup [.int z.1, .int z.2]) = H2 at e2 hrows2 hTT
      refine ⟨T', _, rfl, SqT.of hTT, rfl, _, _, rfl, _, _, rfl, rfl, by show 0 ≤ sizeLine; decide, fun q hq => ?_⟩
      have hHq : H q = none := Evl.fresh_back e2 hq
      have e3 := e2.trans (Evl.Ex.new (o := .lst []) hq)
      have hrows3 := hrows2.mono (Evl.Ex.new (o := .lst []) hq)
      have hqq : (upd H2 q (.lst [])) q = some (.lst []) := upd_same
      obtain ⟨xs, hxs, hpd⟩ := hrows3
      have nepq : p ≠ q := by
        obtain ⟨_, h, _⟩ := hrows2
        exact ne_of_none h hq
      generalize upd H2 q (.lst []) = H3 at e3 hqq hxs hpd
      have hpl := pd_len hpd
      have hw1 : (rowsZ (zs.take i)).length ≤ 60 := by
        rw [rowsZ_len]
        exact Nat.le_trans (wides_take ok.mid i) ok.wide
      have hw2 : (grow (rowsZ (zs.take i)) z.1 z.2).length ≤ 60 := by
        rw [← rowsZ_take hz, rowsZ_len]
        exact Nat.le_trans (wides_take ok.mid _) ok.wide
      refine ⟨_, rfl, p, rfl, ⟨xs, SqL.of hxs⟩, ?_⟩
      refine for_it (walk_list (xs := xs)) (fun j σ H' => ∃ v6 v7 ys, σ = [some (.ref a), some (.ref b), some (.ref p), some (.int z.1), some (.int z.2), some (.ref q), v6, v7] ∧ Ex H H' ∧ Mo H3 H' ∧ H' p = some (.lst xs) ∧ H' q = some (.lst ys) ∧ Paired (RowV H') ys (grow ((rowsZ (zs.take i)).take j) z.1 z.2)) ⟨_, _, [], rfl, e3, Mo.refl _, hxs, hqq, by rw [List.take_zero]; exact .nil⟩ (fun j σ H' _ qq => ?_) ?_ ?_
      · obtain ⟨_, _, _, _, _, _, h, _⟩ := qq
        exact SqL.of h
      · rintro j x σ H4 H5 hj ⟨v6, v7, ys, rfl, e4, m4, h4p, h4q, hpd4⟩ ⟨rfl, hx⟩
        obtain ⟨row, hrow, u, rfl, hu⟩ := pd_get hpd hx
        have hu4 := m4 _ _ hu trivial
        have hrl : row.length ≤ 60 := by
          have := inZ_len (mem_rowsZ.mp (List.mem_of_getElem? hrow))
          rw [this, List.length_take]
          omega
        have hyl := pd_len hpd4
        refine ⟨_, rfl, .inl ⟨rfl, ys, SqL.of h4q⟩, _, rfl, _, rfl, _, _, rfl, rfl, _, _, rfl, ⟨by omega, by omega, by omega, by omega⟩, fun o ho => ?_⟩
        refine lc_pure walk_range ho (by rw [sizeLine_eq]; omega) (fun i acc H' => Paired (RowV H') acc (((spread z.1 z.2).take i).map fun x => row ++ [x])) (fun _ _ _ _ m qq => pd_mono qq fun _ _ h => h.mono m) (fun _ _ => trivial) (by rw [List.take_zero]; exact .nil) ?_ ?_
        · rintro k x H5 H6 acc Kt K0 hk e5 ha5 ⟨rfl, rfl⟩ k1 _
          have hu5 := e5 _ _ hu4
          refine ⟨rfl, yes_ ⟨_, rfl, _, rfl, by show 1 ≤ sizeLine; decide, fun o5 ho5 => ?_⟩⟩
          refine ⟨u, o5, _, _, rfl, rfl, SqT.of (Evl.Ex.new ho5 _ _ hu5), SqT.of upd_same, by rw [List.length_map, List.length_singleton, sizeLine_eq]; omega, fun hnil => k1 _ _ (Evl.Ex.new ho5) ?_, fun _ hnil => (nomatch hnil), fun _ _ o6 ho6' => k1 _ _ ((Evl.Ex.new ho5).trans (Evl.Ex.new ho6')) ?_⟩
          · have hrn : row = [] := List.map_eq_nil_iff.mp hnil
            have eo := Evl.Ex.new (o := .tup [V.int (z.1 + (k : Int))]) ho5
            have ho6 : (upd H6 o5 (.tup [V.int (z.1 + (k : Int))])) o5 = some (.tup (row.map V.int ++ [V.int (z.1 + (k : Int))])) := by rw [hrn]; exact upd_same
            rw [take_snoc (spread_get hk)]
            exact pd_snoc (pd_mono ha5 fun _ _ h => h.mono (mo_ex eo)) (pd_app_row ho6)
          · have eo := (Evl.Ex.new (o := .tup [V.int (z.1 + (k : Int))]) ho5).trans (Evl.Ex.new (o := .tup (row.map V.int ++ [V.int (z.1 + (k : Int))])) ho6')
            have ho6 : (upd (upd H6 o5 (.tup [V.int (z.1 + (k : Int))])) o6 (.tup (row.map V.int ++ [V.int (z.1 + (k : Int))]))) o6 = some (.tup (row.map V.int ++ [V.int (z.1 + (k : Int))])) := upd_same
            rw [take_snoc (spread_get hk)]
            exact pd_snoc (pd_mono ha5 fun _ _ h => h.mono (mo_ex eo)) (pd_app_row ho6)
        · intro acc H6 e6 hacc ha6
          have hspl : (spread z.1 z.2).take (z.2 + 1 - z.1).toNat = spread z.1 z.2 := by
            rw [← spread_len]
            exact List.take_length
          rw [hspl] at ha6
          have hal := pd_len ha6
          rw [List.length_map, spread_len] at hal
          have h6q := e6 _ _ h4q
          have hyy : ys.length + acc.length ≤ 120 := by
            have q1 : ys.length ≤ 60 := by
              rw [hyl]
              refine Nat.le_trans ?_ hw2
              rw [grow_len, grow_len, List.length_take]
              exact Nat.mul_le_mul_right _ (Nat.min_le_right _ _)
            have q2 : (z.2 + 1 - z.1).toNat ≤ 60 := by
              refine Nat.le_trans ?_ hw2
              rw [grow_len]
              exact Nat.le_mul_of_pos_left _ (Nat.lt_of_le_of_lt (Nat.zero_le _) (List.getElem?_eq_some_iff.mp hrow).1)
            omega
          refine ⟨q, o, ys, acc, rfl, rfl, h6q, hacc, by rw [sizeLine_eq]; omega, ?_⟩
          refine ⟨_, _, _, rfl, Evl.Ex.mut (e4.trans e6) hHq, (m4.trans (mo_ex e6)).trans (mo_lst h6q), by rw [upd_ne nepq]; exact e6 _ _ h4p, upd_same, ?_⟩
          rw [grow_take hrow]
          exact pd_mono (pd_app (pd_mono hpd4 fun _ _ h => h.mono (mo_ex e6)) ha6) fun _ _ h => h.mono (mo_lst h6q)
      · rintro σ H4 ⟨v6, v7, ys, rfl, e4, m4, h4p, h4q, hpd4⟩
        refine ⟨_, rfl, q, _, _, _, _, _, rfl, e4, hHq, ys, h4q, ?_⟩
        rw [rowsZ_take hz]
        rw [hpl, List.take_length] at hpd4
        exact hpd4
    · rintro σ H1 ⟨p, v3, v4, v5, v6, v7, rfl, e1, hp, hrows⟩
      rw [List.take_length] at hrows
      exact ⟨_, rfl, kk _ _ hp e1 hrows⟩
end
end Lk
namespace Lk
open PySem PySem.Spec PyProof.Rows L2
open Evl (Ex RetV RetL)
/-! ### rows in order -/
theorem pd_perm {α β : Type} {R : α → β → Prop} {xs ys : List α} (p : ys.Perm xs) : ∀ {rs : List β}, Paired R xs rs → ∃ out : List β, Paired R ys out ∧ out.Perm rs := by
  induction p with
  | nil =>
    intro rs h
    cases h
    exact ⟨[], .nil, .nil⟩
  | cons x p ih =>
    intro rs h
    cases h with
    | cons r t =>
      obtain ⟨out, h1, h2⟩ := ih t
      exact ⟨_ :: out, .cons r h1, h2.cons _⟩
  | swap x y l =>
    intro rs h
    cases h with
    | cons r t =>
      cases t with
      | cons r' t => exact ⟨_ :: _ :: _, .cons r' (.cons r t), .swap _ _ _⟩
  | trans p q ih1 ih2 =>
    intro rs h
    obtain ⟨o1, h1, h2⟩ := ih2 h
    obtain ⟨o2, h3, h4⟩ := ih1 h1
    exact ⟨o2, h3, h4.trans h2⟩
theorem pd_mem {α β : Type} {R : α → β → Prop} {xs : List α} {ys : List β} (h : Paired R xs ys) {x : α} (hx : x ∈ xs) : ∃ y ∈ ys, R x y := by
  obtain ⟨i, hi⟩ := List.getElem?_of_mem hx
  obtain ⟨y, h1, h2⟩ := pd_get h hi
  exact ⟨y, List.mem_of_getElem? h1, h2⟩
theorem pd_mem' {α β : Type} {R : α → β → Prop} {xs : List α} {ys : List β} (h : Paired R xs ys) {y : β} (hy : y ∈ ys) : ∃ x ∈ xs, R x y := by
  obtain ⟨i, hi⟩ := List.getElem?_of_mem hy
  obtain ⟨x, h1, h2⟩ := pd_get' h hi
  exact ⟨x, List.mem_of_getElem? h1, h2⟩
theorem pd_pw {α β : Type} {R : α → β → Prop} {P : α → α → Prop} {P' : β → β → Prop} (f : ∀ x y r s, R x r → R y s → P x y → P' r s) : ∀ {xs : List α} {rs : List β}, Paired R xs rs → xs.Pairwise P → rs.Pairwise P'
  | _, _, .nil, _ => .nil
  | _, _, .cons r t, h => by
    obtain ⟨h1, h2⟩ := List.pairwise_cons.mp h
    refine List.pairwise_cons.mpr ⟨fun s hs => ?_, pd_pw f t h2⟩
    obtain ⟨y, hy, q⟩ := pd_mem' t hs
    exact f _ _ _ _ r q (h1 y hy)
def Srt (rs : List (List Int)) : Prop := rs.Pairwise fun r s => TS.code 1001 r ≤ TS.code 1001 s
/-- rows of one length of small numbers, not too many -/
structure RsOk (n : Nat) (rs : List (List Int)) : Prop where
  few : rs.length ≤ 60
  pos : 1 ≤ n
  n60 : n ≤ 60
  len : ∀ r ∈ rs, r.length = n
  bd : ∀ r ∈ rs, TS.Bd 1001 r
theorem RsOk.sub {n : Nat} {rs out : List (List Int)} (h : RsOk n rs) (hl : out.length ≤ 60) (hm : ∀ r ∈ out, r ∈ rs) : RsOk n out := ⟨hl, h.pos, h.n60, fun r hr => h.len r (hm r hr), fun r hr => h.bd r (hm r hr)⟩
/-- a new list of these rows in order comes back -/
def RetSort (rs : List (List Int)) (H : Hp) (Q : VK) : Prop := ∀ p H' out, H p = none → Ex H H' → RowsV H' p out → out.Perm rs → Srt out → Q (.ref p) H'
theorem code_inj {B : Int} : ∀ {r s : List Int}, r.length = s.length → TS.Bd B r → TS.Bd B s → TS.code B r = TS.code B s → r = s
  | [], [], _, _, _, _ => rfl
  | x :: xs, y :: ys, hl, h1, h2, e => by
    have hl' : xs.length = ys.length := by simpa using hl
    rcases Int.lt_trichotomy x y with c | c | c
    · have := TS.code_lt hl' h1.tail h2.tail c
      omega
    · subst c
      have e' : TS.code B xs = TS.code B ys := by
        have q : x * B ^ xs.length + TS.code B xs = x * B ^ ys.length + TS.code B ys := e
        rw [← hl'] at q
        omega
      rw [code_inj hl' h1.tail h2.tail e']
    · have := TS.code_lt hl'.symm h2.tail h1.tail c
      omega
  | [], _ :: _, h, _, _, _ => by simp at h
  | _ :: _, [], h, _, _, _ => by simp at h
theorem srt_eq {n : Nat} : ∀ {xs ys : List (List Int)}, xs.Perm ys → RsOk n xs → Srt xs → Srt ys → xs = ys
  | [], ys, p, _, _, _ => (List.nil_perm.mp p).symm
  | x :: xs, [], p, _, _, _ => by simpa using p.length_eq
  | x :: xs, y :: ys, p, ok, h1, h2 => by
    obtain ⟨a1, b1⟩ := List.pairwise_cons.mp h1
    obtain ⟨a2, b2⟩ := List.pairwise_cons.mp h2
    have hx : x ∈ y :: ys := p.mem_iff.mp (List.mem_cons_self ..)
    have hy : y ∈ x :: xs := p.mem_iff.mpr (List.mem_cons_self ..)
    have e : x = y := by
      rcases List.mem_cons.mp hx with e | hx
      · exact e
      rcases List.mem_cons.mp hy with e | hy
      · exact e.symm
      have q1 := a1 y hy
      have q2 := a2 x hx
      exact code_inj ((ok.len x (List.mem_cons_self ..)).trans (ok.len y (List.mem_cons_of_mem _ hy)).symm) (ok.bd x (List.mem_cons_self ..)) (ok.bd y (List.mem_cons_of_mem _ hy)) (Int.le_antisymm q1 q2)
    subst e
    have few := ok.few
    rw [List.length_cons] at few
    rw [srt_eq ((List.perm_cons _).mp p) (ok.sub (by omega) fun r hr => List.mem_cons_of_mem _ hr) b1 b2]
theorem eqv_row (r s : List Int) : PyData.eqv (.tuple (r.map PyData.int)) (.tuple (s.map PyData.int)) = decide (r = s) := by
  simp only [PyData.eqv, PySem.W.ked_eqvAll]
theorem canLay_ints : ∀ r : List Int, PyData.canLayAll0 (r.map PyData.int) = true
  | [] => by simp [PyData.canLayAll0]
  | x :: xs => by
    rw [List.map_cons]
    simp [PyData.canLayAll0, PyData.canLay0, canLay_ints xs]
theorem shaped_row (r : List Int) : SeqAt.shaped (.tuple (r.map PyData.int)) = true := by
  unfold SeqAt.shaped
  rw [Bool.and_eq_true]
  refine ⟨?_, decide_eq_true ?_⟩
  · simp only [PyData.canLay0, canLay_ints]
  · show PyData.depthAll (r.map PyData.int) + 1 ≤ 64
    rw [depthAll_ints]
    decide
def isTop (rs : List (List Int)) (r : List Int) : Bool := !rs.any fun o => !decide (r = o) && below r o
theorem filter_take {α : Type} {xs : List α} {f : α → Bool} {i : Nat} {x : α} (h : xs[i]? = some x) : (xs.take (i + 1)).filter f = (xs.take i).filter f ++ (if f x = true then [x] else []) := by
  rw [List.take_add_one, h, List.filter_append]
  congr 1
  show List.filter f [x] = _
  cases hf : f x <;> simp [hf]
abbrev scTop : Scope := { kind := .function, names := [(PySem.Str.ofString ".0", PySem.NameKind.local), (PySem.Str.ofString "row", PySem.NameKind.cell), (PySem.Str.ofString "any", PySem.NameKind.globalImplicit), (PySem.Str.ofString "rows", PySem.NameKind.cell)], isGenerator := false, isCoroutine := false }
section
variable {P : Program} {w : World} {K : PySem.W.Frag} {mg : Str → Option Value} {base : Heap} {C aR aA aP : Addr}
theorem tupI_of {H : Hp} {x : V} {r : List Int} (h : RowV H x r) : TupI K H x r := let ⟨a, e, ha⟩ := h; ⟨a, e, SqT.of ha⟩
/-- sorted(rows), the reading -/
theorem rSort_rows {n : Nat} {H : Hp} {l : Addr} {rs : List (List Int)} {Q : VK} (h : RowsV H l rs) (ok : RsOk n rs) (q : ∀ p out, H p = none → ∀ ys, Paired (RowV (upd H p (.lst ys))) ys out → out.Perm rs → Srt out → Q (.ref p) (upd H p (.lst ys))) : rSortU K n 1001 [.ref l] H Q := by
  obtain ⟨xs, hx, hp⟩ := h
  have hlen := pd_len hp
  have few := ok.few
  refine ⟨l, xs, rfl, SqL.of hx, by omega, fun x m => ?_, fun ys p pm pw hn => ?_⟩
  · obtain ⟨r, hr, hv⟩ := pd_mem hp m
    exact ⟨r, tupI_of hv, ok.len r hr, ok.bd r hr⟩
  · obtain ⟨out, h1, h2⟩ := pd_perm pm hp
    refine q p out hn ys (pd_mono h1 fun _ _ z => z.mono (mo_new hn)) h2 (pd_pw (fun x y r s hr hs z => z r s (tupI_of hr) (tupI_of hs)) h1 pw)
/-! ### greatest_rows -/
def sp_greatest_rows : Sp := fun vs H Q _ => ∃ (l : Addr) (n : Nat) (rs : List (List Int)), vs = [.ref l] ∧ RowsV H l rs ∧ RsOk n rs ∧ RetSort (tops rs) H Q
theorem sc_greatest_rows : FnScope ["rows", "row", "other"] ["rows"] (defScope s_greatest_rows) := ⟨rfl, rfl, rfl, by decide +kernel, rfl, by decide +kernel, by decide +kernel⟩
theorem ok_greatest_rows (T : Txt K mg C aR aA aP) (D : Dn K mg "greatest_rows" s_greatest_rows) (c_is_within : Cal P w K mg base 1 "is_within" sp_below) : Cal P w K mg base 2 "greatest_rows" sp_greatest_rows := by
  have nd := sc_greatest_rows.nd
  refine cal_mk D sc_greatest_rows (fun _ _ _ _ _ _ us hl => match us, hl with | [_], _ => rfl) (fun vs H Q E h => ?_) (fun f cdv A outer s H vs Q E hr h => ?_)
  · obtain ⟨l, n, rs, rfl, _⟩ := h
    rfl
  · obtain ⟨l, n, rs, rfl, hrows, ok, kk⟩ := h
    have hu64 := hu64_of hr
    have hd1 := ok.pos
    refine ⟨_, (pss_one
    (ps_ret (pe_lc (own := [("row", 1)]) rfl nd (pi_listK (K := K) rfl (pe_callB (cr_sortT (B := 1001) hd1) (by rfl) T.sorted (by decide +kernel) (pa_cons (pv 0) pa_nil))) (blkOk_by (N := ["rows", "row", "other"]) (sc := defScope s_greatest_rows) (by decide +kernel)) (fun _ _ _ _ _ => (pg_name (i := 1) nd rfl (Or.inr rfl))) (fun _ _ _ _ _ => (pts_one (pt_not (pt_val (pe_callB (r := rAny K) (cr_any rfl) (by rfl) T.any (by decide +kernel) (pa_cons (pe_lc (own := [("other", 2)]) rfl nd (pi_listK (K := K) rfl (pv 0)) (blkOk_by (N := ["rows", "row", "other"]) (sc := scTop) (by decide +kernel)) (fun _ _ _ _ _ => (pg_name (i := 2) nd rfl (Or.inl rfl))) (fun _ _ _ _ _ => pts_nil) (fun _ _ _ _ _ => (pe_and (pe_cmpR (r := rNeD K) (op_neD hu64) (pv 1) (pv 2) (nomark _)) (pe_one (pe_c c_is_within hr (by decide) rfl (pa_cons (pv 1) (pa_cons (pv 2) pa_nil))))))) pa_nil)))))) (fun _ _ _ _ _ => (pv 1))))), ?_⟩
    refine ⟨_, rfl, ?_⟩
    dsimp only [tNil]
    refine rSort_rows (K := K) hrows ok fun q out hq ys hys hperm hsrt => ?_
    have e0 := Evl.Ex.new (o := .lst ys) hq
    have hqq : (upd H q (.lst ys)) q = some (.lst ys) := upd_same
    have hrows0 := hrows.mono e0
    generalize upd H q (.lst ys) = H0 at e0 hqq hrows0 hys ⊢
    refine ⟨q, rfl, ⟨ys, SqL.of hqq⟩, fun p hp => ?_⟩
    have few := ok.few
    have n60 := ok.n60
    have hyl := pd_len hys
    have hol := hperm.length_eq
    refine lc_pure walk_list hp (by rw [sizeLine_eq]; omega) (fun i acc H' => Paired (RowV H') acc ((out.take i).filter (isTop rs))) (fun _ _ _ _ m q => pd_mono q fun _ _ h => h.mono m) (fun H' e => SqL.of (e _ _ hqq)) .nil ?_ ?_
    · rintro i x H1 H2 acc Kt K0 hi e1 hacc ⟨rfl, hx⟩ k1 k0
      obtain ⟨r, hr', hrv⟩ := pd_get hys hx
      have hrs : r ∈ rs := hperm.mem_iff.mp (List.mem_of_getElem? hr')
      obtain ⟨xs, hxs, hxp⟩ := hrows0.mono e1
      have hxl := pd_len hxp
      have hrv1 := hrv.mono (mo_ex e1)
      refine ⟨rfl, _, rfl, l, rfl, ⟨xs, SqL.of hxs⟩, fun p2 hp2 => ?_⟩
      refine lc_pure walk_list hp2 (by rw [sizeLine_eq]; omega) (fun j acc _ => acc = ((rs.take j).map fun o => !decide (r = o) && below r o).map V.bl) (fun _ _ _ _ _ q => q) (fun H' e => SqL.of (e _ _ hxs)) (by rw [List.take_zero]; rfl) ?_ ?_
      · rintro j y H3 H4 acc2 Kt2 K02 hj e3 hacc2 ⟨rfl, hy⟩ k2 _
        obtain ⟨o, ho, hov⟩ := pd_get hxp hy
        have hos := List.mem_of_getElem? ho
        have hr3 := hrv1.mono (mo_ex e3)
        have ho3 := hov.mono (mo_ex e3)
        refine ⟨rfl, yes_ ⟨_, rfl, _, rfl, _, _, dp_row hr3, dp_row ho3, shaped_row _, shaped_row _, _, rfl, ?_⟩⟩
        rw [eqv_row]
        have fin : ∀ H5, Ex H4 H5 → Kt2 (.bl (!decide (r = o) && below r o)) H5 := fun H5 e5 => by
          refine k2 _ _ e5 ?_
          rw [take_snoc ho, List.map_append, hacc2]
          rfl
        by_cases e : r = o
        · rw [decide_eq_true e]
          refine iteF_ (by simp) ?_
          rw [decide_eq_true e] at fin
          exact fin _ (Evl.Ex.refl _)
        · rw [decide_eq_false e]
          refine iteT_ (by simp) ?_
          rw [decide_eq_false e] at fin
          have hlr := ok.len r hrs
          exact ⟨_, rfl, _, rfl, x, y, r, o, rfl, hr3, ho3, hlr.trans (ok.len o hos).symm, by omega, fun H5 e5 => fin H5 e5⟩
      · intro acc2 H3 e3 hacc2 ha2
        rw [hxl, List.take_length] at ha2
        refine ⟨p2, _, rfl, SqL.of (by rw [hacc2, ha2]), _, rfl, ?_⟩
        have ea : ((rs.map fun o => !decide (r = o) && below r o).any id) = !isTop rs r := by
          unfold isTop
          rw [Bool.not_not, List.any_map]
          rfl
        rw [ea]
        dsimp only
        rw [Bool.not_not]
        have hf := filter_take (f := isTop rs) hr'
        cases ht : isTop rs r with
        | true =>
          rw [ht, if_pos rfl] at hf
          refine iteT_ rfl ⟨_, rfl, k1 _ _ e3 ?_⟩
          rw [hf]
          exact pd_snoc (pd_mono hacc fun _ _ h => h.mono (mo_ex e3)) (hrv1.mono (mo_ex e3))
        | false =>
          rw [ht, if_neg (by simp), List.append_nil] at hf
          refine iteF_ (by simp) (k0 _ e3 ?_)
          rw [hf]
          exact pd_mono hacc fun _ _ h => h.mono (mo_ex e3)
    · intro acc H1 e1 hacc ha
      rw [hyl, List.take_length] at ha
      exact kk p H1 _ (Evl.fresh_back e0 hp) (e0.trans e1) ⟨acc, hacc, ha⟩ (hperm.filter _) (hsrt.filter _)
end
end Lk
namespace Lk
open PySem PySem.Spec PyProof.Rows L2
open Evl (Ex RetV RetL)
/-! ### ranges and rows -/
def zsP (ps : List Part) : List (Int × Int) := ps.map fun p => (p.least, p.most)
def rowsP (ps : List Part) : List (List Int) := rowsZ (zsP ps)
open Classical in
noncomputable def holdP (pg : Int) (ps : List Part) (a b : Nat) (far : Int) : List (List Int) := (rowsP ps).filter fun r => decide (Far pg ps a b far r)
theorem inZ_app : ∀ {z1 z2 : List (Int × Int)} {s t : List Int}, InZ z1 s → InZ z2 t → InZ (z1 ++ z2) (s ++ t)
  | [], _, [], _, _, h => h
  | _ :: _, _, _ :: _, _, h1, h2 => ⟨h1.1, inZ_app h1.2 h2⟩
  | [], _, _ :: _, _, h, _ => h.elim
  | _ :: _, _, [], _, h, _ => h.elim
theorem inZ_take : ∀ {zs : List (Int × Int)} {r : List Int} (b : Nat), InZ zs r → InZ (zs.take b) (r.take b)
  | [], [], _, _ => by simp [InZ]
  | _ :: _, _ :: _, 0, _ => True.intro
  | _ :: _, _ :: _, b + 1, h => ⟨h.1, inZ_take b h.2⟩
  | [], _ :: _, _, h => h.elim
  | _ :: _, [], _, h => h.elim
theorem inZ_most : ∀ {zs : List (Int × Int)}, (∀ z ∈ zs, z.1 ≤ z.2) → InZ zs (zs.map Prod.snd)
  | [], _ => True.intro
  | z :: zs, h => ⟨⟨h z (List.mem_cons_self ..), Int.le_refl _⟩, inZ_most fun y hy => h y (List.mem_cons_of_mem _ hy)⟩
theorem inZ_below : ∀ {zs : List (Int × Int)} {r : List Int}, InZ zs r → below r (zs.map Prod.snd) = true
  | [], [], _ => rfl
  | z :: zs, x :: xs, h => by
    show (decide (x ≤ z.2) && below xs (zs.map Prod.snd)) = true
    rw [decide_eq_true h.1.2, inZ_below h.2]
    rfl
  | [], _ :: _, h => h.elim
  | _ :: _, [], h => h.elim
theorem below_app : ∀ {r s t u : List Int}, r.length = s.length → below r s = true → below t u = true → below (r ++ t) (s ++ u) = true
  | [], [], _, _, _, _, h => h
  | x :: xs, y :: ys, _, _, hl, h, h2 => by
    have h' : (decide (x ≤ y) && below xs ys) = true := h
    rw [Bool.and_eq_true] at h'
    show (decide (x ≤ y) && below (xs ++ _) (ys ++ _)) = true
    rw [h'.1, below_app (by simpa using hl) h'.2 h2]
    rfl
  | [], _ :: _, _, _, hl, _, _ => by simp at hl
  | _ :: _, [], _, _, hl, _, _ => by simp at hl
theorem inZ_drop : ∀ {zs : List (Int × Int)} {r : List Int} (b : Nat), InZ zs r → InZ (zs.drop b) (r.drop b)
  | [], [], _, _ => by simp [InZ]
  | _ :: _, _ :: _, 0, h => h
  | _ :: _, _ :: _, b + 1, h => inZ_drop b h.2
  | [], _ :: _, _, h => h.elim
  | _ :: _, [], _, h => h.elim
theorem inZ_row : ∀ {ps : List Part} {r : List Int}, InZ (zsP ps) r → RowIn ps r
  | [], [], _ => ⟨rfl, fun k hk => absurd hk (Nat.not_lt_zero k)⟩
  | p :: ps, x :: xs, h => by
    obtain ⟨h1, h2⟩ := inZ_row (ps := ps) h.2
    refine ⟨by rw [List.length_cons, List.length_cons, h1], fun k hk => ?_⟩
    cases k with
    | zero => exact h.1
    | succ k => exact h2 k (by simpa using hk)
  | [], _ :: _, h => h.elim
  | _ :: _, [], h => h.elim
theorem row_inZ : ∀ {ps : List Part} {r : List Int}, RowIn ps r → InZ (zsP ps) r
  | [], [], _ => True.intro
  | p :: ps, x :: xs, h => ⟨h.2 0 (by simp), row_inZ ⟨by simpa using h.1, fun k hk => h.2 (k + 1) (by simpa using hk)⟩⟩
  | [], _ :: _, h => by have := h.1; simp at this
  | _ :: _, [], h => by have := h.1; simp at this
theorem mem_rowsP {ps : List Part} {r : List Int} : r ∈ rowsP ps ↔ RowIn ps r := mem_rowsZ.trans ⟨inZ_row, row_inZ⟩
theorem far_congr {pg : Int} {ps : List Part} {a b : Nat} {far : Int} {r s : List Int} (h : ∀ k, k < b → r.getD k 0 = s.getD k 0) (hf : Far pg ps a b far r) : Far pg ps a b far s := fun sz hsz => hf sz fun k hk => ⟨(hsz k hk).1, by
  have := (hsz k hk).2
  unfold hiR at this ⊢
  rw [h k hk]
  exact this⟩
theorem zsP_mid {pg : Int} {ps : List Part} (ok : PlOk pg ps) : ∀ z ∈ zsP ps, z.1 ≤ z.2 := fun z hz => by
  obtain ⟨p, hp, rfl⟩ := List.mem_map.mp hz
  obtain ⟨k, hk⟩ := List.getElem?_of_mem hp
  have := ok.mid k (List.getElem?_eq_some_iff.mp hk).1
  rw [List.getD_eq_getElem?_getD, hk] at this
  exact this
theorem zsP_snd (ps : List Part) : (zsP ps).map Prod.snd = ps.map Part.most := by
  unfold zsP
  rw [List.map_map]
  rfl
/-- the program's rows: the first ones free, behind them the greatest -/
def progR (ps : List Part) (b : Nat) : List (List Int) := (rowsZ ((zsP ps).take b)).map fun s => s ++ (ps.map Part.most).drop b
open Classical in
noncomputable def progH (pg : Int) (ps : List Part) (a b : Nat) (far : Int) : List (List Int) := (progR ps b).filter fun r => decide (Far pg ps a b far r)
theorem progR_in {pg : Int} {ps : List Part} {b : Nat} {r : List Int} (ok : PlOk pg ps) (h : r ∈ progR ps b) : RowIn ps r := by
  obtain ⟨s, hs, rfl⟩ := List.mem_map.mp h
  refine inZ_row ?_
  have q := inZ_app (mem_rowsZ.mp hs) (inZ_most (zs := (zsP ps).drop b) fun z hz => zsP_mid ok z (List.mem_of_mem_drop hz))
  rw [List.take_append_drop, List.map_drop, zsP_snd] at q
  exact q
theorem progR_up {pg : Int} {ps : List Part} {b : Nat} {r : List Int} (ok : PlOk pg ps) (h : RowIn ps r) : r.take b ++ (ps.map Part.most).drop b ∈ progR ps b ∧ below r (r.take b ++ (ps.map Part.most).drop b) = true := by
  have hz := row_inZ h
  refine ⟨List.mem_map.mpr ⟨r.take b, mem_rowsZ.mpr (inZ_take b hz), rfl⟩, ?_⟩
  have q := below_app (r := r.take b) (s := r.take b) rfl (below_refl _) (inZ_below (inZ_drop b hz))
  rw [List.take_append_drop, List.map_drop, zsP_snd] at q
  exact q
theorem nodup_tops {rs : List (List Int)} (h : rs.Nodup) : (tops rs).Nodup := List.Pairwise.filter _ h
theorem nodup_holdP {pg : Int} {ps : List Part} {a b : Nat} {far : Int} : (holdP pg ps a b far).Nodup := List.Pairwise.filter _ nodup_rowsZ
theorem nodup_progR {ps : List Part} {b : Nat} : (progR ps b).Nodup := by
  unfold progR
  exact List.pairwise_map.mpr ((nodup_rowsZ).imp fun h e => h (List.append_cancel_right e))
theorem mem_holdP {pg : Int} {ps : List Part} {a b : Nat} {far : Int} {r : List Int} : r ∈ holdP pg ps a b far ↔ RowIn ps r ∧ Far pg ps a b far r := by
  unfold holdP
  rw [List.mem_filter, mem_rowsP]
  simp
theorem mem_progH {pg : Int} {ps : List Part} {a b : Nat} {far : Int} {r : List Int} : r ∈ progH pg ps a b far ↔ r ∈ progR ps b ∧ Far pg ps a b far r := by
  unfold progH
  rw [List.mem_filter]
  simp
theorem tops_prog {pg : Int} {ps : List Part} {a b : Nat} {far : Int} (ok : PlOk pg ps) (hb : b < ps.length) : (tops (progH pg ps a b far)).Perm (tops (holdP pg ps a b far)) := by
  refine (List.perm_ext_iff_of_nodup (nodup_tops (List.Pairwise.filter _ nodup_progR)) (nodup_tops nodup_holdP)).mpr fun r => ?_
  have A : ∀ {r}, r ∈ progH pg ps a b far → r ∈ holdP pg ps a b far := fun h => by
    obtain ⟨h1, h2⟩ := mem_progH.mp h
    exact mem_holdP.mpr ⟨progR_in ok h1, h2⟩
  have B : ∀ {r}, r ∈ holdP pg ps a b far → ∃ o ∈ progH pg ps a b far, below r o = true := fun {r} h => by
    obtain ⟨h1, h2⟩ := mem_holdP.mp h
    obtain ⟨q1, q2⟩ := progR_up (b := b) ok h1
    refine ⟨_, mem_progH.mpr ⟨q1, far_congr (fun k hk => ?_) h2⟩, q2⟩
    have hl := h1.1
    rw [List.getD_eq_getElem?_getD, List.getD_eq_getElem?_getD, List.getElem?_append_left (by rw [List.length_take]; omega), List.getElem?_take_of_lt hk]
  have L : ∀ {r}, r ∈ holdP pg ps a b far → r.length = ps.length := fun h => (mem_holdP.mp h).1.1
  rw [mem_tops, mem_tops]
  constructor
  · rintro ⟨h1, h2⟩
    refine ⟨A h1, fun o ho hb => ?_⟩
    obtain ⟨o', ho', hb'⟩ := B ho
    have e := h2 o' ho' (below_trans ((L (A h1)).trans (L ho).symm) ((L ho).trans (L (A ho')).symm) hb hb')
    subst e
    exact below_anti ((L (A h1)).trans (L ho).symm) hb hb'
  · rintro ⟨h1, h2⟩
    obtain ⟨o, ho, hb⟩ := B h1
    have e := h2 o (A ho) hb
    subst e
    exact ⟨ho, fun o' ho' hb' => h2 o' (A ho') hb'⟩
theorem cut_take {xs : List V} {b : Nat} (h : b ≤ xs.length) : cutV xs none (some (b : Int)) = xs.take b := by
  unfold cutV
  have e1 : HT.sIx xs.length 0 none = 0 := rfl
  have e2 : HT.sIx xs.length xs.length (some (b : Int)) = b := by
    simp only [HT.sIx]
    split <;> omega
  rw [e1, e2, List.drop_zero, Nat.sub_zero]
theorem cut_drop {xs : List V} {b : Nat} (h : b ≤ xs.length) : cutV xs (some (b : Int)) none = xs.drop b := by
  unfold cutV
  have e1 : HT.sIx xs.length 0 (some (b : Int)) = b := by
    simp only [HT.sIx]
    split <;> omega
  have e2 : HT.sIx xs.length xs.length none = xs.length := rfl
  rw [e1, e2, List.take_of_length_le (by rw [List.length_drop]; exact Nat.le_refl _)]
theorem zsOk_take {zs : List (Int × Int)} (h : ZsOk zs) (b : Nat) : ZsOk (zs.take b) := ⟨by have := h.len; rw [List.length_take]; omega, fun z hz => h.low z (List.mem_of_mem_take hz), fun z hz => h.mid z (List.mem_of_mem_take hz), fun z hz => h.high z (List.mem_of_mem_take hz), Nat.le_trans (wides_take h.mid b) h.wide⟩
theorem rowIn_bd {pg : Int} {ps : List Part} {r : List Int} (ok : PlOk pg ps) (h : RowIn ps r) : TS.Bd 1001 r := fun x hx => by
  obtain ⟨k, hk⟩ := List.getElem?_of_mem hx
  have hk' := (List.getElem?_eq_some_iff.mp hk).1
  have hlt : k < ps.length := by rw [← h.1]; exact hk'
  obtain ⟨h1, h2⟩ := h.2 k hlt
  have h3 := ok.low k hlt
  have h4 := ok.high k hlt
  have e : r.getD k 0 = x := by rw [List.getD_eq_getElem?_getD, hk]; rfl
  rw [e] at h1 h2
  omega
section
variable {P : Program} {w : World} {K : PySem.W.Frag} {mg : Str → Option Value} {base : Heap} {C aR aA aP : Addr}
/-! ### greatest_bounds -/
def sp_greatest_bounds (C : Addr) : Sp := fun vs H Q _ => ∃ (v : V) (pg : Int) (ps : List Part) (a b : Nat) (far : Int), vs = [v, .str (ps.getD a default).word, .str (ps.getD b default).word, .int far] ∧ PlanV C H v pg ps ∧ PlOk pg ps ∧ TwoOk ps a b ∧ ZsOk (zsP ps) ∧
  RetSort (tops (holdP pg ps a b far)) H Q
theorem sc_greatest_bounds : FnScope ["plan", "one", "other", "far", "first", "second", "distance", "behind", "rows", "row"] ["plan", "one", "other", "far"] (defScope s_greatest_bounds) := ⟨rfl, rfl, rfl, by decide +kernel, rfl, by decide +kernel, by decide +kernel⟩
theorem ok_greatest_bounds (T : Txt K mg C aR aA aP) (D : Dn K mg "greatest_bounds" s_greatest_bounds) (c_checked_two : Cal P w K mg base 3 "checked_two" (sp_checked_two C)) (c_checked_far : Cal P w K mg base 2 "checked_far" sp_checked_far)
    (c_leasts : Cal P w K mg base 1 "leasts" (sp_col C Part.least)) (c_mosts : Cal P w K mg base 1 "mosts" (sp_col C Part.most)) (c_rows_between : Cal P w K mg base 1 "rows_between" sp_rows) (c_reach_at_most : Cal P w K mg base 4 "reach_at_most" (sp_reach_at_most C)) (c_greatest_rows : Cal P w K mg base 2 "greatest_rows" sp_greatest_rows) :
    Cal P w K mg base 5 "greatest_bounds" (sp_greatest_bounds C) := by
  have nd := sc_greatest_bounds.nd
  refine cal_mk D sc_greatest_bounds (fun _ _ _ _ _ _ us hl => match us, hl with | [_, _, _, _], _ => rfl) (fun vs H Q E h => ?_) (fun f cdv A outer s H vs Q E hr h => ?_)
  · obtain ⟨v, pg, ps, a, b, far, rfl, _⟩ := h
    rfl
  · obtain ⟨v, pg, ps, a, b, far, rfl, hP, ok, two, zok, kk⟩ := h
    refine ⟨_, (pss_cons
    (ps_asg (pe_c c_checked_two hr (by decide) rfl (pa_cons (pv 0) (pa_cons (pv 1) (pa_cons (pv 2) pa_nil)))) (pg_tup rfl (pgs_cons (pg_name (i := 4) nd rfl (Or.inr rfl)) (pgs_cons (pg_name (i := 5) nd rfl (Or.inr rfl)) pgs_nil))))
    (pss_cons
    (ps_asg (pe_tup (pa_cons (pe_c c_checked_far hr (by decide) rfl (pa_cons (pv 3) pa_nil)) (pa_cons (pe_callTy call_tuple_of (by rfl) T.tuple (by decide +kernel) (pa_cons (pe_slice sl_list (pe_c c_mosts hr (by decide) rfl (pa_cons (pv 0) pa_nil)) (po_some (pv 5)) po_none) pa_nil)) pa_nil))) (pg_tup rfl (pgs_cons (pg_name (i := 6) nd rfl (Or.inr rfl)) (pgs_cons (pg_name (i := 7) nd rfl (Or.inr rfl)) pgs_nil))))
    (pss_cons
    (ps_setLc (i := 8) (own := [("row", 9)]) rfl nd rfl rfl (sw_true rfl rfl rfl (by decide +kernel)) (pi_listK (K := K) rfl (pe_c c_rows_between hr (by decide) rfl (pa_cons (pe_slice sl_list (pe_c c_leasts hr (by decide) rfl (pa_cons (pv 0) pa_nil)) po_none (po_some (pv 5))) (pa_cons (pe_slice sl_list (pe_c c_mosts hr (by decide) rfl (pa_cons (pv 0) pa_nil)) po_none (po_some (pv 5))) pa_nil)))) (blkOk_by (N := ["plan", "one", "other", "far", "first", "second", "distance", "behind", "rows", "row"]) (sc := defScope s_greatest_bounds) (by decide +kernel)) (fun _ _ _ _ _ => (pg_name (i := 9) nd rfl (Or.inl rfl))) (fun _ _ _ _ _ => pts_nil) (fun _ _ _ _ _ => (pe_tup (pa_starK (K := K) rfl (pv 9) (pa_starK (K := K) rfl (pv 7) pa_nil)))))
    (pss_one
    (ps_ret (pe_c c_greatest_rows hr (by decide) rfl (pa_cons (pe_lc (own := [("row", 9)]) rfl nd (pi_listK (K := K) rfl (pv 8)) (blkOk_by (N := ["plan", "one", "other", "far", "first", "second", "distance", "behind", "rows", "row"]) (sc := defScope s_greatest_bounds) (by decide +kernel)) (fun _ _ _ _ _ => (pg_name (i := 9) nd rfl (Or.inl rfl))) (fun _ _ _ _ _ => (pts_one (pt_cmpR op_le (pe_c c_reach_at_most hr (by decide) rfl (pa_cons (pv 0) (pa_cons (pv 4) (pa_cons (pv 5) (pa_cons (pv 9) pa_nil))))) (pv 6) (nomark _)))) (fun _ _ _ _ _ => (pv 9))) pa_nil))))))), ?_⟩
    have hb := two.in_
    have hzl : (zsP ps).length = ps.length := List.length_map ..
    have hps := zok.len
    refine ⟨_, rfl, _, rfl, _, rfl, v, pg, ps, a, b, rfl, hP, two.lt, two.in_, two.words, two.ne, fun H1 p e1 q1 => ?_⟩
    refine ⟨p, _, rfl, SqT.of q1, rfl, _, _, rfl, _, _, rfl, rfl, ?_⟩
    refine ⟨_, rfl, far, rfl, fun H2 e2 => ?_⟩
    have e12 := e1.trans e2
    refine ⟨_, rfl, v, pg, ps, rfl, hP.mono (mo_ex e12), ok.len, fun l3 H3 hl3 e3 q3 => ?_⟩
    have e13 := e12.trans e3
    refine ⟨_, rfl, _, rfl, l3, _, rfl, SqL.of q3, fun p4 hp4 => ?_⟩
    rw [cut_drop (by rw [List.length_map, List.length_map]; omega), ← List.map_drop]
    refine ⟨p4, _, rfl, .inl ⟨SqL.of upd_same, fun p5 hp5 => ⟨by show 2 ≤ sizeLine; decide, fun p6 hp6 => ?_⟩⟩⟩
    have e6 := ((e13.trans (Evl.Ex.new hp4)).trans (Evl.Ex.new hp5)).trans (Evl.Ex.new (o := .tup [.int far, .ref p5]) hp6)
    refine ⟨p6, _, rfl, SqT.of upd_same, rfl, _, _, rfl, _, _, rfl, rfl, ?_⟩
    have h5 := Evl.Ex.new (o := .tup [.int far, .ref p5]) hp6 _ _ (upd_same (a := p5) (o := .tup (((ps.map Part.most).drop b).map V.int)))
    generalize upd (upd (upd H3 p4 (.lst (((ps.map Part.most).drop b).map V.int))) p5 (.tup (((ps.map Part.most).drop b).map V.int))) p6 (.tup [.int far, .ref p5]) = H6 at e6 h5 ⊢
    refine ⟨_, rfl, v, pg, ps, rfl, hP.mono (mo_ex e6), ok.len, fun l7 H7 hl7 e7 q7 => ?_⟩
    refine ⟨_, rfl, _, rfl, l7, _, rfl, SqL.of q7, fun p8 hp8 => ?_⟩
    rw [cut_take (by rw [List.length_map, List.length_map]; omega), ← List.map_take]
    have e8 := e7.trans (Evl.Ex.new (o := .lst (((ps.map Part.least).take b).map V.int)) hp8)
    have h8 : (upd H7 p8 (.lst (((ps.map Part.least).take b).map V.int))) p8 = some (.lst (((ps.map Part.least).take b).map V.int)) := upd_same
    generalize upd H7 p8 (.lst (((ps.map Part.least).take b).map V.int)) = H8 at e8 h8 ⊢
    have e68 := e6.trans e8
    refine ⟨_, rfl, v, pg, ps, rfl, hP.mono (mo_ex e68), ok.len, fun l9 H9 hl9 e9 q9 => ?_⟩
    refine ⟨_, rfl, _, rfl, l9, _, rfl, SqL.of q9, fun p10 hp10 => ?_⟩
    rw [cut_take (by rw [List.length_map, List.length_map]; omega), ← List.map_take]
    have e10 := e9.trans (Evl.Ex.new (o := .lst (((ps.map Part.most).take b).map V.int)) hp10)
    have h10 : (upd H9 p10 (.lst (((ps.map Part.most).take b).map V.int))) p10 = some (.lst (((ps.map Part.most).take b).map V.int)) := upd_same
    generalize upd H9 p10 (.lst (((ps.map Part.most).take b).map V.int)) = H10 at e10 h10 ⊢
    have h8' := e10 _ _ h8
    have h5' := e10 _ _ (e8 _ _ h5)
    have e610 := e68.trans e10
    refine ⟨p8, p10, (zsP ps).take b, rfl, ?_, ?_, zsOk_take zok b, fun p11 H11 hp11 e11 hrows => ?_⟩
    · rw [h8', zsP, List.map_take, List.map_take, List.map_map, List.map_map]
      rfl
    · rw [h10, zsP, List.map_take, List.map_take, List.map_map, List.map_map]
      rfl
    have e12' := e610.trans e11
    have h5'' := e11 _ _ h5'
    obtain ⟨xs, hxs, hpd⟩ := hrows
    have hxl := pd_len hpd
    have hw : (rowsZ ((zsP ps).take b)).length ≤ 60 := by
      rw [rowsZ_len]
      exact Nat.le_trans (wides_take zok.mid b) zok.wide
    refine ⟨p11, rfl, ⟨xs, SqL.of hxs⟩, fun p12 hp12 => ?_⟩
    refine lc_pure walk_list hp12 (by rw [sizeLine_eq]; omega) (fun i acc H' => Paired (RowV H') acc (((rowsZ ((zsP ps).take b)).take i).map fun s => s ++ (ps.map Part.most).drop b)) (fun _ _ _ _ m q => pd_mono q fun _ _ h => h.mono m) (fun H' e => SqL.of (e _ _ hxs)) .nil ?_ ?_
    · rintro i x H12 H13 acc Kt K0 hi e13' hacc ⟨rfl, hx⟩ k1 _
      obtain ⟨r, hr', u, rfl, hu⟩ := pd_get hpd hx
      have hu' := e13' _ _ hu
      have hrl : r.length ≤ 60 := by
        have := inZ_len (mem_rowsZ.mp (List.mem_of_getElem? hr'))
        rw [this, List.length_take]
        omega
      have hll : ((ps.map Part.most).drop b).length ≤ 60 := by
        rw [List.length_drop, List.length_map]
        omega
      refine ⟨rfl, yes_ ⟨_, rfl, u, _, rfl, .inl (SqT.of hu'), _, rfl, p5, _, rfl, .inl (SqT.of (e13' _ _ h5'')), by rw [List.length_append, List.length_append, List.length_map, List.length_map, sizeLine_eq, List.length_nil]; omega, fun o ho => k1 _ _ (Evl.Ex.new ho) ?_⟩⟩
      rw [take_snoc hr']
      refine pd_snoc (pd_mono hacc fun _ _ h => h.mono (mo_new ho)) ⟨o, rfl, ?_⟩
      rw [upd_same, List.append_nil, List.map_append]
    · intro acc H12 e12 hacc ha
      rw [hxl, List.take_length] at ha
      have e13' := e12'.trans e12
      have hal := pd_len ha
      rw [List.length_map] at hal
      have ha : Paired (RowV H12) acc (progR ps b) := ha
      refine ⟨_, rfl, p12, rfl, ⟨acc, SqL.of hacc⟩, fun p13 hp13 => ?_⟩
      refine lc_pure walk_list hp13 (by rw [sizeLine_eq]; omega) (fun i acc H' => ∃ out, Paired (RowV H') acc out ∧ out = ((progR ps b).take i).filter fun r => @decide (Far pg ps a b far r) (Classical.propDecidable _)) (fun _ _ _ _ m ⟨o, q, e⟩ => ⟨o, pd_mono q fun _ _ h => h.mono m, e⟩) (fun H' e => SqL.of (e _ _ hacc)) ⟨[], .nil, rfl⟩ ?_ ?_
      · rintro i x H14 H15 acc2 Kt K0 hi e14 ⟨out, hacc2, eout⟩ ⟨rfl, hx⟩ k1 k0
        obtain ⟨r, hr', hv⟩ := pd_get ha hx
        have hv' := hv.mono (mo_ex e14)
        have hri : RowIn ps r := progR_in ok (List.mem_of_getElem? hr')
        refine ⟨rfl, _, rfl, _, rfl, _, rfl, _, rfl, v, x, pg, ps, a, b, r, rfl, hP.mono (mo_ex (e13'.trans e14)), ok, two.lt, two.in_, hv'.ints, hri, fun m hm H16 e16 => ?_⟩
        have hfm := far_max (far := far) ok hri two.lt two.in_ hm
        have hft := filter_take (f := fun r => @decide (Far pg ps a b far r) (Classical.propDecidable _)) hr'
        refine ⟨_, rfl, _, _, rfl, rfl, _, rfl, ite2 (fun h0 => ?_) (fun h0 => ?_)⟩
        · have hf : Far pg ps a b far r := hfm.mp (of_decide_eq_true h0)
          rw [if_pos (@decide_eq_true _ (Classical.propDecidable _) hf), ← eout] at hft
          exact ⟨_, rfl, k1 _ _ e16 ⟨_, pd_snoc (pd_mono hacc2 fun _ _ h => h.mono (mo_ex e16)) (hv'.mono (mo_ex e16)), hft.symm⟩⟩
        · have hf : ¬ Far pg ps a b far r := fun z => h0 (decide_eq_true (hfm.mpr z))
          rw [if_neg (fun z => hf (@of_decide_eq_true _ (Classical.propDecidable _) z)), List.append_nil, ← eout] at hft
          exact k0 _ e16 ⟨_, pd_mono hacc2 fun _ _ h => h.mono (mo_ex e16), hft.symm⟩
      · rintro acc2 H14 e14 hacc2 ⟨out, ha2, eout⟩
        have hpl : (progR ps b).length = acc.length := by rw [progR, List.length_map, hal]
        rw [← hpl, List.take_length] at eout
        have eo : out = progH pg ps a b far := eout
        subst eo
        refine ⟨p13, ps.length, _, rfl, ⟨acc2, hacc2, ha2⟩, ?_, fun p15 H15 out hp15 e15 hr15 hperm hsrt => ?_⟩
        · refine ⟨Nat.le_trans (List.length_filter_le _ _) (by rw [hpl]; omega), by omega, by omega, fun r hr => ?_, fun r hr => ?_⟩
          · exact (progR_in ok (mem_progH.mp hr).1).1
          · exact rowIn_bd ok (progR_in ok (mem_progH.mp hr).1)
        · exact kk p15 H15 out (Evl.fresh_back (e13'.trans e14) hp15) ((e13'.trans e14).trans e15) hr15 (hperm.trans (tops_prog ok hb)) hsrt
end
end Lk
namespace Lk
open PySem PySem.Spec PyProof.Rows L2
open Evl (Ex RetV RetL)
/-! ### the source of draws: a list of three ints at a -/
def Src (N : Nat) (H : Hp) (a : Addr) : Prop := ∃ x y z : Int, H a = some (.lst [.int x, .int y, .int z]) ∧ 0 ≤ x ∧ 0 ≤ y ∧ y < 2147483629 ∧ 0 ≤ z ∧ z ≤ (N : Int)
/-- all but what stands at a stands as it stood -/
def ExS (a : Addr) (H H' : Hp) : Prop := ∀ p o, p ≠ a → H p = some o → H' p = some o
theorem ExS.refl (a : Addr) (H : Hp) : ExS a H H := fun _ _ _ h => h
theorem ExS.trans {a : Addr} {H H1 H2 : Hp} (e : ExS a H H1) (f : ExS a H1 H2) : ExS a H H2 := fun p o n h => f p o n (e p o n h)
theorem exs {a : Addr} {H H' : Hp} (e : Ex H H') : ExS a H H' := fun p o _ h => e p o h
theorem ExS.set {a : Addr} {H H' : Hp} {o : HO} (e : ExS a H H') : ExS a H (upd H' a o) := fun p u n h => by
  rw [upd_ne n]
  exact e p u n h
/-- what H does not know may change -/
theorem ExS.mut {a : Addr} {H H' : Hp} {p : Addr} {o : HO} (e : ExS a H H') (h : H p = none) : ExS a H (upd H' p o) := fun q u n hq => by
  rw [upd_ne (ne_of_none hq h)]
  exact e q u n hq
theorem Src.at_ {N : Nat} {H : Hp} {a : Addr} (h : Src N H a) : ∃ o, H a = some (.lst o) := let ⟨_, _, _, h, _⟩ := h; ⟨_, h⟩
theorem Src.ex {N : Nat} {H H' : Hp} {a : Addr} (h : Src N H a) (e : Ex H H') : Src N H' a := let ⟨x, y, z, h, r⟩ := h; ⟨x, y, z, e _ _ h, r⟩
theorem Src.weak {N M : Nat} {H : Hp} {a : Addr} (h : Src N H a) (hm : N ≤ M) : Src M H a := let ⟨x, y, z, h, h1, h2, h3, h4, h5⟩ := h; ⟨x, y, z, h, h1, h2, h3, h4, by omega⟩
theorem Src.ne {N : Nat} {H : Hp} {a p : Addr} (h : Src N H a) (hp : H p = none) : a ≠ p := let ⟨_, h⟩ := h.at_; ne_of_none h hp
theorem mo_s {N : Nat} {H H' : Hp} {a : Addr} (h : Src N H a) (e : ExS a H H') : Mo H H' := fun p o hp i => by
  obtain ⟨l, hl⟩ := h.at_
  refine e p o (fun q => ?_) hp
  rw [q, hl] at hp
  cases hp
  exact i
/-- fresh behind is fresh before -/
theorem ExS.back {N : Nat} {H H' : Hp} {a p : Addr} (e : ExS a H H') (h : Src N H' a) (hp : H' p = none) : H p = none := by
  cases h1 : H p with
  | none => rfl
  | some o =>
    rw [e p o (Ne.symm (h.ne hp)) h1] at hp
    cases hp
section
variable {P : Program} {w : World} {K : PySem.W.Frag} {mg : Str → Option Value} {base : Heap} {C aR aA aP : Addr}
/-! ### _law_draw -/
def sp_draw : Sp := fun vs H Q _ => ∃ (a : Addr) (m : Int) (N : Nat), vs = [.ref a, .int m] ∧ 1 ≤ m ∧ m ≤ 1000 ∧ Src N H a ∧ N < 1000000 ∧ ∀ H' (k : Nat), ExS a H H' → Src (N + 1) H' a → (k : Int) < m → Q (.int (k : Int)) H'
theorem sc_law_draw : FnScope ["_law_source_here", "_law_many", "_law_found", "_law_mixed_here"] ["_law_source_here", "_law_many"] (defScope s_law_draw) := ⟨rfl, rfl, rfl, by decide +kernel, rfl, by decide +kernel, by decide +kernel⟩
theorem ok_law_draw (T : Txt K mg C aR aA aP) (D : Dn K mg "_law_draw" s_law_draw) : Cal P w K mg base 1 "_law_draw" sp_draw := by
  have nd := sc_law_draw.nd
  refine cal_mk D sc_law_draw (fun _ _ _ _ _ _ us hl => match us, hl with | [_, _], _ => rfl) (fun vs H Q E h => ?_) (fun f cdv A outer s H vs Q E hr h => ?_)
  · obtain ⟨a, m, N, rfl, _⟩ := h
    rfl
  · obtain ⟨a, m, N, rfl, hm1, hm2, ⟨x, y, z, ha, hx, hy, hy2, hz, hz2⟩, hN, kk⟩ := h
    refine ⟨_, (pss_cons
    (ps_if (pt_cmpR op_gt (pe_ix ix_list (pv 0) pe_int (fun _ _ => rfl)) pe_int (nomark _))
      (pss_cons
      (ps_set (i := 2) nd rfl (Or.inl rfl) (pe_op op_mod (pe_callTy call_int1 (by rfl) T.int (by decide +kernel) (pa_cons (pe_ix ix_list (pv 0) pe_int (fun _ _ => rfl)) pa_nil)) (pv 1)))
      (pss_cons
      (ps_asg (pe_op op_fdiv (pe_ix ix_list (pv 0) pe_int (fun _ _ => rfl)) (pv 1)) (pg_sub (pv 0) pe_int set_list))
      (pss_one
      (ps_ret (pv 2)))))
      pss_nil)
    (pss_cons
    (ps_asg (pe_op op_add (pe_ix ix_list (pv 0) pe_int (fun _ _ => rfl)) pe_int) (pg_sub (pv 0) pe_int set_list))
    (pss_cons
    (ps_set (i := 3) nd rfl (Or.inl rfl) (pe_op op_mod (pe_op op_pow (pe_callTy call_int1 (by rfl) T.int (by decide +kernel) (pa_cons (pe_op op_add (pe_ix ix_list (pv 0) pe_int (fun _ _ => rfl)) (pe_op op_mul pe_int (pe_ix ix_list (pv 0) pe_int (fun _ _ => rfl)))) pa_nil)) pe_int) pe_int))
    (pss_one
    (ps_ret (pe_op op_mod (pe_op op_fdiv (pe_op op_mod (pe_callTy call_int1 (by rfl) T.int (by decide +kernel) (pa_cons (pe_op op_mul (pe_op op_add (pv 3) (pe_ix ix_list (pv 0) pe_int (fun _ _ => rfl))) pe_int) pa_nil)) pe_int) pe_int) (pv 1))))))), ?_⟩
    have fin : ∀ (H' : Hp) (t : Int), ExS a H H' → Src (N + 1) H' a → Q (.int (t % m)) H' := fun H' t e s => by
      have q1 := Int.emod_nonneg t (show m ≠ 0 by omega)
      have q2 := Int.emod_lt_of_pos t (show 0 < m by omega)
      have e1 : t % m = ((t % m).toNat : Int) := by omega
      rw [e1]
      exact kk H' _ e s (by omega)
    refine ⟨_, rfl, a, _, _, _, rfl, rfl, SqL.of ha, rfl, _, _, rfl, rfl, _, rfl, ite2 (fun h0 => ?_) (fun h0 => ?_)⟩
    · refine ⟨_, rfl, a, _, _, _, rfl, rfl, SqL.of ha, rfl, .inl ⟨_, rfl, _, rfl, _, _, rfl, rfl, by show (0 : Int) < m; omega, ?_⟩⟩
      refine ⟨_, rfl, a, _, _, _, rfl, rfl, SqL.of ha, rfl, _, rfl, _, _, rfl, rfl, ⟨by omega, by omega⟩, ?_⟩
      refine ⟨_, rfl, a, _, _, 0, rfl, rfl, ha, rfl, ?_⟩
      refine ⟨_, rfl, ?_⟩
      refine fin _ x (ExS.refl a H).set ⟨x / m, y, z, upd_same, Int.ediv_nonneg hx (by omega), hy, hy2, hz, by omega⟩
    · refine ⟨_, rfl, a, _, _, _, rfl, rfl, SqL.of ha, rfl, _, _, rfl, rfl, ?_⟩
      refine ⟨_, rfl, a, _, _, 2, rfl, rfl, ha, rfl, ?_⟩
      have ha2 : (upd H a (.lst ([V.int x, V.int y, V.int z].set 2 (V.int (z + 1))))) a = some (.lst [.int x, .int y, .int (z + 1)]) := upd_same
      have e2 : ExS a H (upd H a (.lst ([V.int x, V.int y, V.int z].set 2 (V.int (z + 1))))) := (ExS.refl a H).set
      generalize upd H a (.lst ([V.int x, V.int y, V.int z].set 2 (V.int (z + 1)))) = H2 at ha2 e2
      refine ⟨_, rfl, a, _, _, _, rfl, rfl, SqL.of ha2, rfl, ?_⟩
      refine ⟨_, rfl, a, _, _, _, rfl, rfl, SqL.of ha2, rfl, _, _, rfl, rfl, .inl ⟨by decide, by decide⟩, ?_⟩
      refine ⟨_, _, rfl, rfl, .inl ⟨_, rfl, _, _, rfl, rfl, ⟨by decide, by decide, by omega⟩, ?_⟩⟩
      refine ⟨_, _, rfl, rfl, by show (0 : Int) < 2147483647; decide, ?_⟩
      refine ⟨_, rfl, _, rfl, a, _, _, _, rfl, rfl, SqL.of ha2, rfl, _, _, rfl, rfl, _, _, rfl, rfl, .inr ⟨by decide, by decide⟩, .inl ⟨_, rfl, _, _, rfl, rfl, by show (0 : Int) < 2147483629; decide, ?_⟩⟩
      refine ⟨_, _, rfl, rfl, ⟨by decide, by decide⟩, _, rfl, _, _, rfl, rfl, by show (0 : Int) < m; omega, ?_⟩
      exact fin _ _ e2 ⟨x, y, z + 1, ha2, hx, hy, hy2, by omega, by omega⟩
/-! ### _law_pick -/
def sp_pick : Sp := fun vs H Q _ => ∃ (a l : Addr) (N : Nat) (xs : List V), vs = [.ref a, .ref l] ∧ H l = some (.lst xs) ∧ l ≠ a ∧ 1 ≤ xs.length ∧ xs.length ≤ 1000 ∧ Src N H a ∧ N < 1000000 ∧ ∀ H' x, x ∈ xs → ExS a H H' → Src (N + 1) H' a → Q x H'
theorem sc_law_pick : FnScope ["_law_source_here", "_law_things"] ["_law_source_here", "_law_things"] (defScope s_law_pick) := ⟨rfl, rfl, rfl, by decide +kernel, rfl, by decide +kernel, by decide +kernel⟩
theorem ok_law_pick (T : Txt K mg C aR aA aP) (D : Dn K mg "_law_pick" s_law_pick) (c_law_draw : Cal P w K mg base 1 "_law_draw" sp_draw) : Cal P w K mg base 2 "_law_pick" sp_pick := by
  have nd := sc_law_pick.nd
  refine cal_mk D sc_law_pick (fun _ _ _ _ _ _ us hl => match us, hl with | [_, _], _ => rfl) (fun vs H Q E h => ?_) (fun f cdv A outer s H vs Q E hr h => ?_)
  · obtain ⟨a, l, N, xs, rfl, _⟩ := h
    rfl
  · obtain ⟨a, l, N, xs, rfl, hl, hne, h1, h2, hs, hN, kk⟩ := h
    refine ⟨_, (pss_one
    (ps_ret (pe_ix ix_list (pv 1) (pe_c c_law_draw hr (by decide) rfl (pa_cons (pv 0) (pa_cons (pe_callB call_len_seq (by rfl) T.len PySem.boot_len (pa_cons (pv 1) pa_nil)) pa_nil))) (fun _ _ => rfl)))), ?_⟩
    refine ⟨_, rfl, _, rfl, _, rfl, l, xs, rfl, .inl (SqL.of hl), a, _, N, rfl, by omega, by omega, hs, hN, fun H' k e s hk => ?_⟩
    have hk' : k < xs.length := by omega
    refine ⟨l, xs, _, xs[k], rfl, rfl, SqL.of (e _ _ hne hl), atI_nat (List.getElem?_eq_getElem hk'), ?_⟩
    exact kk H' _ (List.getElem_mem hk') e s
/-! ### _law_mixed -/
theorem erase_perm {α : Type} : ∀ {l : List α} (k : Nat) (h : k < l.length), ([l[k]] ++ l.eraseIdx k).Perm l
  | [], _, h => absurd h (Nat.not_lt_zero _)
  | _ :: _, 0, _ => List.Perm.refl _
  | x :: xs, k + 1, h => by
    have ih := erase_perm (l := xs) k (by simpa using h)
    exact (List.Perm.swap _ _ _).trans (ih.cons x)
theorem erase_map {α β : Type} (f : α → β) : ∀ (l : List α) (k : Nat), (l.map f).eraseIdx k = (l.eraseIdx k).map f
  | [], _ => rfl
  | _ :: _, 0 => rfl
  | x :: xs, k + 1 => by
    show f x :: (xs.map f).eraseIdx k = f x :: (xs.eraseIdx k).map f
    rw [erase_map f xs k]
theorem eqv_strs : ∀ r s : List Str, PyData.eqvAll (r.map PyData.str) (s.map PyData.str) = decide (r = s)
  | [], [] => by simp [PyData.eqvAll]
  | [], _ :: _ => by simp [PyData.eqvAll]
  | _ :: _, [] => by simp [PyData.eqvAll]
  | a :: r, b :: t => by
    simp only [List.map_cons, PyData.eqvAll, PyData.eqv, eqv_strs r t]
    by_cases h : a = b <;> by_cases h' : r = t <;> simp [h, h']
theorem canLay_strs : ∀ r : List Str, (∀ x ∈ r, PyData.strOk x = true) → PyData.canLayAll0 (r.map PyData.str) = true
  | [], _ => by simp [PyData.canLayAll0]
  | x :: xs, h => by
    rw [List.map_cons]
    simp [PyData.canLayAll0, PyData.canLay0, canLay_strs xs fun y hy => h y (List.mem_cons_of_mem _ hy), h x (List.mem_cons_self ..)]
theorem depthAll_strs : ∀ r : List Str, PyData.depthAll (r.map PyData.str) = 0
  | [] => rfl
  | x :: xs => by
    rw [List.map_cons]
    show max (PyData.depth (.str x)) (PyData.depthAll (xs.map PyData.str)) = 0
    rw [depthAll_strs xs]
    rfl
theorem shaped_strs (r : List Str) (h : ∀ x ∈ r, PyData.strOk x = true) : SeqAt.shaped (.list (r.map PyData.str)) = true := by
  unfold SeqAt.shaped
  rw [Bool.and_eq_true]
  refine ⟨?_, decide_eq_true ?_⟩
  · simp only [PyData.canLay0, canLay_strs r h]
  · show PyData.depthAll (r.map PyData.str) + 1 ≤ 64
    rw [depthAll_strs]
    decide
theorem dpAll_strs {K : PySem.W.Frag} {H : Hp} : ∀ r : List Str, DpAll K H (r.map V.str) (r.map PyData.str)
  | [] => .nil
  | x :: xs => .cons (.str x) (dpAll_strs xs)
def sp_mixed : Sp := fun vs H Q _ => ∃ (a l : Addr) (N : Nat) (ws : List Str), vs = [.ref a, .ref l] ∧ H l = some (.lst (ws.map V.str)) ∧ l ≠ a ∧ ws.length ≤ 100 ∧ (∀ z ∈ ws, PyData.strOk z = true) ∧ Src N H a ∧ N + 100 < 1000000 ∧
  ∀ p H' (ys : List Str), H p = none → ExS a H H' → Src (N + ws.length) H' a → H' p = some (.lst (ys.map V.str)) → ys.Perm ws → Q (.ref p) H'
theorem sc_law_mixed : FnScope ["_law_source_here", "_law_things", "_law_left", "_law_found"] ["_law_source_here", "_law_things"] (defScope s_law_mixed) := ⟨rfl, rfl, rfl, by decide +kernel, rfl, by decide +kernel, by decide +kernel⟩
theorem ok_law_mixed (T : Txt K mg C aR aA aP) (D : Dn K mg "_law_mixed" s_law_mixed) (c_law_draw : Cal P w K mg base 1 "_law_draw" sp_draw) : Cal P w K mg base 2 "_law_mixed" sp_mixed := by
  have nd := sc_law_mixed.nd
  refine cal_mk D sc_law_mixed (fun _ _ _ _ _ _ us hl => match us, hl with | [_, _], _ => rfl) (fun vs H Q E h => ?_) (fun f cdv A outer s H vs Q E hr h => ?_)
  · obtain ⟨a, l, N, ws, rfl, _⟩ := h
    rfl
  · obtain ⟨a, l, N, ws, rfl, hl, hne, h1, hok, hs, hN, kk⟩ := h
    have hu64 := hu64_of hr
    refine ⟨_, (pss_cons
    (ps_par (i := 2) (j := 3) rfl nd rfl rfl (by decide) rfl rfl (pa_cons (pe_callTy call_list_of (by rfl) T.list (by decide +kernel) (pa_cons (pv 1) pa_nil)) (pa_cons (pe_lst pa_nil) pa_nil)) (by rfl))
    (pss_cons
    (ps_while PassesOwn.never (pt_cmpR (r := rNeD K) (op_neD hu64) (pv 2) (pe_lst pa_nil) (nomark _))
      (pss_one
      (ps_expr (pe_bm PySem.F.plainAttrs_list PySem.F.slot_list_append PySem.F.type_list_append mt_append (pv 3) (pa_cons (pe_bm PySem.F.plainAttrs_list PySem.F.slot_list_pop PySem.F.type_list_pop mt_popAt (pv 2) (pa_cons (pe_c c_law_draw hr (by decide) rfl (pa_cons (pv 0) (pa_cons (pe_callB call_len_seq (by rfl) T.len PySem.boot_len (pa_cons (pv 2) pa_nil)) pa_nil))) pa_nil)) pa_nil)))))
    (pss_one
    (ps_ret (pv 3))))), ?_⟩
    refine ⟨_, rfl, l, _, rfl, .inl (SqL.of hl), fun p hp => ⟨by show 0 ≤ sizeLine; decide, fun q hq => ⟨_, _, rfl, ?_⟩⟩⟩
    have npq : p ≠ q := ne_of_none upd_same hq
    have hHq : H q = none := Evl.fresh_back (Evl.Ex.new hp) hq
    have e0 : Ex H (upd (upd H p (.lst (ws.map V.str))) q (.lst [])) := (Evl.Ex.new hp).trans (Evl.Ex.new hq)
    refine while_by (fun σ H' => ∃ (ls fs : List Str), σ = [some (.ref a), some (.ref l), some (.ref p), some (.ref q)] ∧ ExS a H H' ∧ Src (N + fs.length) H' a ∧ H' p = some (.lst (ls.map V.str)) ∧ H' q = some (.lst (fs.map V.str)) ∧ (fs ++ ls).Perm ws)
      (fun σ H' => match H' p with | some (.lst xs) => xs.length | _ => 0) ⟨ws, [], rfl, exs e0, hs.ex e0, Evl.Ex.new hq _ _ upd_same, upd_same, List.Perm.refl _⟩ ?_ ?_
    · rintro σ H1 ⟨ls, fs, rfl, e1, hs1, hp1, hq1, hperm⟩
      have hsum := hperm.length_eq
      rw [List.length_append] at hsum
      refine ⟨_, rfl, by show 0 ≤ sizeLine; decide, fun r hr' => ?_⟩
      have er := Evl.Ex.new (o := .lst []) hr'
      have e2 := e1.trans (exs er)
      have hs2 := hs1.ex er
      have hp2 := er _ _ hp1
      have hq2 := er _ _ hq1
      have hr2 : (upd H1 r (.lst [])) r = some (.lst []) := upd_same
      generalize upd H1 r (.lst []) = H2 at e2 hs2 hp2 hq2 hr2 ⊢
      refine ⟨.list (ls.map PyData.str), .list (([] : List Str).map PyData.str), .lst (SqL.of hp2) (dpAll_strs ls), .lst (SqL.of hr2) .nil, shaped_strs _ (fun z hz => hok z (hperm.mem_iff.mp (List.mem_append_right _ hz))), shaped_strs [] (fun _ q => nomatch q), _, rfl, ?_⟩
      have ee : PyData.eqv (.list (ls.map PyData.str)) (.list (([] : List Str).map PyData.str)) = decide (ls = []) := by
        simp only [PyData.eqv]
        exact eqv_strs ls []
      rw [ee]
      refine ite2 (fun h0 => ?_) (fun h0 => ?_)
      · have hpos : 0 < ls.length := by
          cases ls with
          | nil => simp at h0
          | cons _ _ => simp
        refine ⟨_, rfl, .inl ⟨rfl, _, SqL.of hq2⟩, ?_⟩
        refine ⟨_, rfl, .inl ⟨rfl, _, SqL.of hp2⟩, ?_⟩
        refine ⟨_, rfl, _, rfl, p, _, rfl, .inl (SqL.of hp2), a, _, _, rfl, by rw [List.length_map]; omega, by rw [List.length_map]; omega, hs2, by omega, fun H3 k e3 s3 hk => ?_⟩
        rw [List.length_map] at hk
        have hk' : k < ls.length := by omega
        have npa : p ≠ a := (hs.ne hp).symm
        have nqa : q ≠ a := (hs.ne hHq).symm
        refine ⟨p, _, _, k, V.str ls[k], rfl, rfl, e3 _ _ npa hp2, by omega, by omega, ?_, ?_, ?_⟩
        · rw [List.length_map, seqIndex_of (by omega) (by omega), Int.toNat_natCast]
        · rw [List.getElem?_map, List.getElem?_eq_getElem hk']
          rfl
        refine ⟨q, _, _, rfl, rfl, by rw [upd_ne (Ne.symm npq)]; exact e3 _ _ nqa hq2, by rw [List.length_map, sizeLine_eq]; omega, ?_⟩
        refine ⟨⟨ls.eraseIdx k, fs ++ [ls[k]], rfl, (e2.trans e3).mut hp |>.mut hHq, ?_, ?_, ?_, ?_⟩, ?_⟩
        · obtain ⟨x, y, z, h, r⟩ := s3
          refine ⟨x, y, z, ?_, ?_⟩
          · rw [upd_ne (Ne.symm nqa), upd_ne (Ne.symm npa)]
            exact h
          · rw [List.length_append, List.length_singleton]
            exact r
        · rw [upd_ne npq, upd_same, erase_map]
        · rw [upd_same, List.map_append]
          rfl
        · refine List.Perm.trans ?_ hperm
          rw [List.append_assoc]
          refine List.Perm.append_left _ ?_
          exact erase_perm k hk'
        · show (match (upd (upd H3 p _) q _) p with | some (.lst xs) => xs.length | _ => 0) < (match H1 p with | some (.lst xs) => xs.length | _ => 0)
          rw [hp1, upd_ne npq, upd_same]
          show ((ls.map V.str).eraseIdx k).length < (ls.map V.str).length
          rw [List.length_eraseIdx_of_lt (by rw [List.length_map]; exact hk'), List.length_map]
          omega
      · have hn : ls = [] := by
          cases ls with
          | nil => rfl
          | cons _ _ => simp at h0
        subst hn
        rw [List.append_nil] at hperm
        rw [List.length_nil, Nat.add_zero] at hsum
        refine ⟨_, rfl, kk q H2 fs hHq e2 (hs2.weak (by omega)) hq2 hperm⟩
    · intro σ H' Q Q' hQ hc
      obtain ⟨v, hv, h1, h2⟩ := hc
      exact ⟨v, hv, h1, fun r hr => let ⟨d, e, a1, a2, a3, a4, k, a5, a6⟩ := h2 r hr; ⟨d, e, a1, a2, a3, a4, k, a5, hQ _ _ a6⟩⟩
end
end Lk
namespace Lk
open PySem PySem.Spec PyProof.Rows L2
open Evl (Ex RetV RetL)
section
variable {P : Program} {w : World} {K : PySem.W.Frag} {mg : Str → Option Value} {base : Heap} {C aR aA aP : Addr}
theorem isi1 {H : Hp} {x : V} {m n : String} {b : Bool} {Q : VK} (hx : TyX K H x (.type m)) (h : kitB m n = some b) (q : Q (.bl b) H) : rIsi K [x, .ty n] H Q := ⟨x, .ty n, .type m, .type n, b, rfl, .ty n, hx, kit_ty h, q⟩
theorem isi2 {H : Hp} {x : V} {tp : Addr} {m n n' : String} {b b' : Bool} {Q : VK} (ht : H tp = some (.tup [.ty n, .ty n'])) (hx : TyX K H x (.type m)) (h : kitB m n = some b) (h' : kitB m n' = some b') (q : Q (.bl (b || b')) H) : rIsiT K [x, .ref tp] H Q := by
  refine ⟨x, tp, _, .type m, _, b || b', rfl, ht, .cons (.ty _) (.cons (.ty _) .nil), hx, ?_, q⟩
  refine kitAny_cons (kit_ty h) (fun e => ?_) (fun e => by rw [e]; rfl)
  rw [e, Bool.false_or]
  refine kitAny_cons (kit_ty h') (fun e => ?_) (fun e => e)
  rw [e]
  exact kitAny_nil
/-! ### _law_loose -/
def sp_loose0 : Sp := fun vs H Q _ => ∃ (a : Addr) (i : Int), vs = [.ref a, .int i] ∧ RetV (.int i) H Q
theorem sc_law_loose : FnScope ["_law_source_here", "_law_thing", "_law_found", "_law_part"] ["_law_source_here", "_law_thing"] (defScope s_law_loose) := ⟨rfl, rfl, rfl, by decide +kernel, rfl, by decide +kernel, by decide +kernel⟩
theorem ok_law_loose0 (T : Txt K mg C aR aA aP) (D : Dn K mg "_law_loose" s_law_loose) : Cal P w K mg base 1 "_law_loose" sp_loose0 := by
  have nd := sc_law_loose.nd
  refine cal_mk D sc_law_loose (fun _ _ _ _ _ _ us hl => match us, hl with | [_, _], _ => rfl) (fun vs H Q E h => ?_) (fun f cdv A outer s H vs Q E hr h => ?_)
  · obtain ⟨a, i, rfl, _⟩ := h
    rfl
  · obtain ⟨a, i, rfl, kk⟩ := h
    refine ⟨_, (pss_cons
    (ps_if (pt_val (pe_callB call_isiT (by rfl) T.isinstance (by decide +kernel) (pa_cons (pv 1) (pa_cons (pe_tup (pa_cons (pe_bltn (v := .ty "list") (by rfl) T.list (by decide +kernel) rfl) (pa_cons (pe_bltn (v := .ty "tuple") (by rfl) T.tuple (by decide +kernel) rfl) pa_nil))) pa_nil))))
      (pss_cons
      ps_never
      (pss_one
      ps_never))
      pss_nil)
    (pss_one
    (ps_ret (pv 1)))), ?_⟩
    refine ⟨_, rfl, by show 2 ≤ sizeLine; decide, fun p hp => ?_⟩
    dsimp only [tNil, tCons, tC]
    refine isi2 (K := K) upd_same (.base (.int i)) (b := false) (b' := false) (by decide +kernel) (by decide +kernel) ⟨_, rfl, iteF_ (by simp) ⟨_, rfl, kk _ (Evl.Ex.new hp)⟩⟩
def sp_loose : Sp := fun vs H Q _ => ∃ (a l : Addr) (N : Nat) (r : List Int), vs = [.ref a, .ref l] ∧ H l = some (.lst (r.map V.int)) ∧ l ≠ a ∧ r.length ≤ 1000 ∧ Src N H a ∧ N < 1000000 ∧ ∀ v H', IntsV H' v r → ExS a H H' → Src (N + 1) H' a → Q v H'
theorem ok_law_loose (T : Txt K mg C aR aA aP) (D : Dn K mg "_law_loose" s_law_loose) (c_law_loose : Cal P w K mg base 1 "_law_loose" sp_loose0) (c_law_draw : Cal P w K mg base 1 "_law_draw" sp_draw) : Cal P w K mg base 2 "_law_loose" sp_loose := by
  have nd := sc_law_loose.nd
  refine cal_mk D sc_law_loose (fun _ _ _ _ _ _ us hl => match us, hl with | [_, _], _ => rfl) (fun vs H Q E h => ?_) (fun f cdv A outer s H vs Q E hr h => ?_)
  · obtain ⟨a, l, N, r, rfl, _⟩ := h
    rfl
  · obtain ⟨a, l, N, r, rfl, hl, hne, h1, hs, hN, kk⟩ := h
    refine ⟨_, (pss_cons
    (ps_if (pt_val (pe_callB call_isiT (by rfl) T.isinstance (by decide +kernel) (pa_cons (pv 1) (pa_cons (pe_tup (pa_cons (pe_bltn (v := .ty "list") (by rfl) T.list (by decide +kernel) rfl) (pa_cons (pe_bltn (v := .ty "tuple") (by rfl) T.tuple (by decide +kernel) rfl) pa_nil))) pa_nil))))
      (pss_cons
      (ps_setLc (i := 2) (own := [("_law_part", 3)]) rfl nd rfl rfl (sw_true rfl rfl rfl (by decide +kernel)) (pi_listK (K := K) rfl (pv 1)) (blkOk_by (N := ["_law_source_here", "_law_thing", "_law_found", "_law_part"]) (sc := defScope s_law_loose) (by decide +kernel)) (fun _ _ _ _ _ => (pg_name (i := 3) nd rfl (Or.inl rfl))) (fun _ _ _ _ _ => pts_nil) (fun _ _ _ _ _ => (pe_c c_law_loose hr (by decide) rfl (pa_cons (pv 0) (pa_cons (pv 3) pa_nil)))))
      (pss_one
      (ps_ret (pe_ifExp (pt_cmpR op_eq (pe_c c_law_draw hr (by decide) rfl (pa_cons (pv 0) (pa_cons pe_int pa_nil))) pe_int (nomark _)) (pv 2) (pe_callTy call_tuple_of (by rfl) T.tuple (by decide +kernel) (pa_cons (pv 2) pa_nil))))))
      pss_nil)
    (pss_one
    (ps_ret (pv 1)))), ?_⟩
    refine ⟨_, rfl, by show 2 ≤ sizeLine; decide, fun p hp => ?_⟩
    dsimp only [tNil, tCons, tC]
    refine isi2 (K := K) upd_same (.base (.lst (Evl.Ex.new hp _ _ hl))) (b := true) (b' := false) (by decide +kernel) (by decide +kernel) ⟨_, rfl, iteT_ rfl ?_⟩
    have e0 := Evl.Ex.new (o := .tup [.ty "list", .ty "tuple"]) hp
    have hl0 := e0 _ _ hl
    generalize upd H p (.tup [.ty "list", .ty "tuple"]) = H0 at e0 hl0 ⊢
    refine ⟨_, rfl, l, rfl, ⟨r.map V.int, SqL.of hl0⟩, fun q hq => ?_⟩
    refine lc_pure walk_list hq (by rw [List.length_map, sizeLine_eq]; omega) (fun i acc _ => acc = (r.take i).map V.int) (fun _ _ _ _ _ q => q) (fun H' e => SqL.of (e _ _ hl0)) rfl ?_ ?_
    · rintro i x H1 H2 acc Kt K0 hi e1 ha ⟨rfl, hx⟩ k1 _
      rw [List.length_map] at hi
      rw [ints_at hi] at hx
      cases hx
      refine ⟨rfl, yes_ ⟨_, rfl, _, rfl, a, _, rfl, fun H3 e3 => k1 _ _ e3 ?_⟩⟩
      rw [take_snoc (get_D hi), ha]
    · intro acc H1 e1 hacc ha
      rw [List.length_map, List.take_length] at ha
      rw [ha] at hacc
      have hHq : H q = none := Evl.fresh_back e0 hq
      have nqa : q ≠ a := (hs.ne hHq).symm
      refine ⟨_, rfl, a, 2, N, rfl, by decide, by decide, hs.ex (e0.trans e1), hN, fun H2 k e2 s2 hk => ?_⟩
      have hq2 := e2 _ _ nqa hacc
      have e02 : ExS a H H2 := (exs (e0.trans e1)).trans e2
      refine ⟨rfl, _, rfl, ite2 (fun h0 => ?_) (fun h0 => ?_)⟩
      · exact ⟨_, rfl, kk _ _ ⟨q, rfl, .inl hq2⟩ e02 s2⟩
      · refine ⟨_, rfl, q, _, rfl, .inl ⟨SqL.of hq2, fun o ho => ?_⟩⟩
        exact kk _ _ ⟨o, rfl, .inr upd_same⟩ (e02.trans (exs (Evl.Ex.new ho))) (s2.ex (Evl.Ex.new ho))
/-! ### _law_same -/
def sp_same0 : Sp := fun vs H Q _ => ∃ z : V, vs = [z, z] ∧ ((∃ i, z = .int i) ∨ ∃ q, z = .bl q) ∧ RetV (.bl true) H Q
theorem sc_law_same : FnScope ["_law_found", "_law_due", "_law_x", "_law_y"] ["_law_found", "_law_due"] (defScope s_law_same) := ⟨rfl, rfl, rfl, by decide +kernel, rfl, by decide +kernel, by decide +kernel⟩
theorem ok_law_same0 (T : Txt K mg C aR aA aP) (D : Dn K mg "_law_same" s_law_same) : Cal P w K mg base 1 "_law_same" sp_same0 := by
  have nd := sc_law_same.nd
  refine cal_mk D sc_law_same (fun _ _ _ _ _ _ us hl => match us, hl with | [_, _], _ => rfl) (fun vs H Q E h => ?_) (fun f cdv A outer s H vs Q E hr h => ?_)
  · obtain ⟨z, rfl, _⟩ := h
    rfl
  · obtain ⟨z, rfl, hz, kk⟩ := h
    have hm : ∃ (m : String) (b : Bool), (∀ H, TyX K H z (.type m)) ∧ kitB m "list" = some false ∧ kitB m "tuple" = some false ∧ kitB m "dict" = some false ∧ kitB m "int" = some true ∧ kitB m "bool" = some b := by
      rcases hz with ⟨i, rfl⟩ | ⟨q, rfl⟩
      · exact ⟨"int", false, fun _ => .base (.int i), by decide +kernel, by decide +kernel, by decide +kernel, by decide +kernel, by decide +kernel⟩
      · exact ⟨"bool", true, fun _ => .base (.bl q), by decide +kernel, by decide +kernel, by decide +kernel, by decide +kernel, by decide +kernel⟩
    obtain ⟨m, b, ht, m1, m2, m3, m4, m5⟩ := hm
    have hh : rEq z z = fun H Q => True ∧ Q (.bl true) H := by
      rcases hz with ⟨i, rfl⟩ | ⟨q, rfl⟩ <;> (funext H Q; exact propext ⟨fun h => ⟨trivial, by simpa using h.2⟩, fun h => ⟨rfl, by simpa using h.2⟩⟩)
    refine ⟨_, (pss_cons
    (ps_if (pt_val (pe_callB call_isiT (by rfl) T.isinstance (by decide +kernel) (pa_cons (pv 1) (pa_cons (pe_tup (pa_cons (pe_bltn (v := .ty "list") (by rfl) T.list (by decide +kernel) rfl) (pa_cons (pe_bltn (v := .ty "tuple") (by rfl) T.tuple (by decide +kernel) rfl) pa_nil))) pa_nil))))
      (pss_cons
      ps_never
      (pss_one
      ps_never))
      pss_nil)
    (pss_cons
    (ps_if (pt_val (pe_callB call_isi (by rfl) T.isinstance (by decide +kernel) (pa_cons (pv 1) (pa_cons (pe_bltn (v := .ty "dict") (by rfl) T.dict (by decide +kernel) rfl) pa_nil))))
      (pss_one
      ps_never)
      pss_nil)
    (pss_cons
    (ps_if (pt_val (pe_callB call_isi (by rfl) T.isinstance (by decide +kernel) (pa_cons (pv 1) (pa_cons (pe_bltn (v := .ty "int") (by rfl) T.int (by decide +kernel) rfl) pa_nil))))
      (pss_one
      (ps_ret (pe_and (pe_callB call_isi (by rfl) T.isinstance (by decide +kernel) (pa_cons (pv 0) (pa_cons (pe_bltn (v := .ty "int") (by rfl) T.int (by decide +kernel) rfl) pa_nil))) (pe_and (pe_cmpR op_eq (pe_callB call_isi (by rfl) T.isinstance (by decide +kernel) (pa_cons (pv 0) (pa_cons (pe_bltn (v := .ty "bool") (by rfl) T.bool (by decide +kernel) rfl) pa_nil))) (pe_callB call_isi (by rfl) T.isinstance (by decide +kernel) (pa_cons (pv 1) (pa_cons (pe_bltn (v := .ty "bool") (by rfl) T.bool (by decide +kernel) rfl) pa_nil))) (nomark _)) (pe_one (pe_cmpR op_eq (pv 0) (pv 1) (nomark _)))))))
      pss_nil)
    (pss_one
    ps_never)))), ?_⟩
    refine ⟨_, rfl, by show 2 ≤ sizeLine; decide, fun p hp => ?_⟩
    dsimp only [tNil, tCons, tC]
    refine isi2 (K := K) upd_same (ht _) m1 m2 ⟨_, rfl, iteF_ (by simp) ?_⟩
    refine ⟨_, rfl, ?_⟩
    dsimp only [tNil, tCons, tC]
    refine isi1 (K := K) (ht _) m3 ⟨_, rfl, iteF_ (by simp) ?_⟩
    refine ⟨_, rfl, ?_⟩
    dsimp only [tNil, tCons, tC]
    refine isi1 (K := K) (ht _) m4 ⟨_, rfl, iteT_ rfl ?_⟩
    refine ⟨_, rfl, ?_⟩
    dsimp only [tNil, tCons, tC]
    refine isi1 (K := K) (ht _) m4 ⟨_, rfl, iteT_ rfl ?_⟩
    refine ⟨_, rfl, ?_⟩
    dsimp only [tNil, tCons, tC]
    refine isi1 (K := K) (ht _) m5 ⟨_, rfl, ?_⟩
    dsimp only [tNil, tCons, tC]
    refine isi1 (K := K) (ht _) m5 ⟨rfl, _, rfl, iteT_ (by simp) ?_⟩
    refine ⟨_, rfl, _, rfl, ?_⟩
    dsimp only
    rw [hh]
    exact ⟨trivial, kk _ (Evl.Ex.new hp)⟩
def sp_same1 : Sp := fun vs H Q _ => ∃ (x y : V) (r : List Int), vs = [x, y] ∧ RowV H x r ∧ RowV H y r ∧ r.length ≤ 60 ∧ RetV (.bl true) H Q
theorem ok_law_same1 (T : Txt K mg C aR aA aP) (D : Dn K mg "_law_same" s_law_same) (c_law_same : Cal P w K mg base 1 "_law_same" sp_same0) : Cal P w K mg base 2 "_law_same" sp_same1 := by
  have nd := sc_law_same.nd
  refine cal_mk D sc_law_same (fun _ _ _ _ _ _ us hl => match us, hl with | [_, _], _ => rfl) (fun vs H Q E h => ?_) (fun f cdv A outer s H vs Q E hr h => ?_)
  · obtain ⟨x, y, r, rfl, _⟩ := h
    rfl
  · obtain ⟨x, y, r, rfl, ⟨a, rfl, ha⟩, ⟨b, rfl, hb⟩, hl, kk⟩ := h
    refine ⟨_, (pss_cons
    (ps_if (pt_val (pe_callB call_isiT (by rfl) T.isinstance (by decide +kernel) (pa_cons (pv 1) (pa_cons (pe_tup (pa_cons (pe_bltn (v := .ty "list") (by rfl) T.list (by decide +kernel) rfl) (pa_cons (pe_bltn (v := .ty "tuple") (by rfl) T.tuple (by decide +kernel) rfl) pa_nil))) pa_nil))))
      (pss_cons
      (ps_if (PW.pt (pw_or (pt_cmpR op_ne (pe_callB call_isi (by rfl) T.isinstance (by decide +kernel) (pa_cons (pv 0) (pa_cons (pe_bltn (v := .ty "list") (by rfl) T.list (by decide +kernel) rfl) pa_nil))) (pe_callB call_isi (by rfl) T.isinstance (by decide +kernel) (pa_cons (pv 1) (pa_cons (pe_bltn (v := .ty "list") (by rfl) T.list (by decide +kernel) rfl) pa_nil))) (nomark _)) (pw_or1 (pt_cmpR op_ne (pe_callB call_isi (by rfl) T.isinstance (by decide +kernel) (pa_cons (pv 0) (pa_cons (pe_bltn (v := .ty "tuple") (by rfl) T.tuple (by decide +kernel) rfl) pa_nil))) (pe_callB call_isi (by rfl) T.isinstance (by decide +kernel) (pa_cons (pv 1) (pa_cons (pe_bltn (v := .ty "tuple") (by rfl) T.tuple (by decide +kernel) rfl) pa_nil))) (nomark _)))))
        (pss_one
        (ps_ret pe_bl))
        pss_nil)
      (pss_one
      (ps_ret (pe_and (pe_cmpR op_eq (pe_callB call_len_seq (by rfl) T.len PySem.boot_len (pa_cons (pv 0) pa_nil)) (pe_callB call_len_seq (by rfl) T.len PySem.boot_len (pa_cons (pv 1) pa_nil)) (nomark _)) (pe_one (pe_callB (cr_all rfl) (by rfl) T.all (by decide +kernel) (pa_cons (pe_lc (own := [("_law_x", 2), ("_law_y", 3)]) rfl nd (RZ.pi_zipA (by rfl) T.zip (pa_cons (pv 0) (pa_cons (pv 1) pa_nil))) (blkOk_by (N := ["_law_found", "_law_due", "_law_x", "_law_y"]) (sc := defScope s_law_same) (by decide +kernel)) (fun _ _ _ _ _ => (pg_tupK (n := 2) (K := K) rfl rfl (pgs_cons (pg_name (i := 2) nd rfl (Or.inl rfl)) (pgs_cons (pg_name (i := 3) nd rfl (Or.inl rfl)) pgs_nil)))) (fun _ _ _ _ _ => pts_nil) (fun _ _ _ _ _ => (pe_c c_law_same hr (by decide) rfl (pa_cons (pv 2) (pa_cons (pv 3) pa_nil))))) pa_nil)))))))
      pss_nil)
    (pss_cons
    (ps_if (pt_val (pe_callB call_isi (by rfl) T.isinstance (by decide +kernel) (pa_cons (pv 1) (pa_cons (pe_bltn (v := .ty "dict") (by rfl) T.dict (by decide +kernel) rfl) pa_nil))))
      (pss_one
      ps_never)
      pss_nil)
    (pss_cons
    (ps_if (pt_val (pe_callB call_isi (by rfl) T.isinstance (by decide +kernel) (pa_cons (pv 1) (pa_cons (pe_bltn (v := .ty "int") (by rfl) T.int (by decide +kernel) rfl) pa_nil))))
      (pss_one
      ps_never)
      pss_nil)
    (pss_one
    ps_never)))), ?_⟩
    refine ⟨_, rfl, by show 2 ≤ sizeLine; decide, fun p hp => ?_⟩
    dsimp only [tNil, tCons, tC]
    refine isi2 (K := K) upd_same (.base (.tup (Evl.Ex.new hp _ _ hb))) (b := false) (b' := true) (by decide +kernel) (by decide +kernel) ⟨_, rfl, iteT_ rfl ?_⟩
    have e0 := Evl.Ex.new (o := .tup [.ty "list", .ty "tuple"]) hp
    generalize upd H p (.tup [.ty "list", .ty "tuple"]) = H0 at e0 ⊢
    have ha0 := e0 _ _ ha
    have hb0 := e0 _ _ hb
    refine ⟨_, rfl, ?_⟩
    dsimp only [tNil, tCons, tC]
    refine isi1 (K := K) (.base (.tup ha0)) (b := false) (by decide +kernel) ⟨_, rfl, ?_⟩
    dsimp only [tNil, tCons, tC]
    refine isi1 (K := K) (.base (.tup hb0)) (b := false) (by decide +kernel) ⟨rfl, _, rfl, iteF_ (by simp) ?_⟩
    refine ⟨_, rfl, ?_⟩
    dsimp only [tNil, tCons, tC]
    refine isi1 (K := K) (.base (.tup ha0)) (b := true) (by decide +kernel) ⟨_, rfl, ?_⟩
    dsimp only [tNil, tCons, tC]
    refine isi1 (K := K) (.base (.tup hb0)) (b := true) (by decide +kernel) ⟨rfl, _, rfl, iteF_ (by simp) ?_⟩
    refine ⟨_, rfl, a, _, rfl, .inr (SqT.of ha0), _, rfl, b, _, rfl, .inr (SqT.of hb0), rfl, _, rfl, iteT_ (decide_eq_true rfl) ?_⟩
    refine ⟨_, rfl, _, rfl, a, b, _, _, rfl, .inr ⟨SqT.of ha0, SqT.of hb0, fun q hq => ?_⟩⟩
    refine lc_pure (walk_zipT (n := r.length) (by rw [List.length_map]; omega)) hq (by rw [sizeLine_eq]; omega) (fun i acc _ => acc = (List.replicate i true).map V.bl) (fun _ _ _ _ _ q => q) (fun H' e => ⟨SqT.of (e _ _ ha0), SqT.of (e _ _ hb0)⟩) rfl ?_ ?_
    · rintro i x H' H'' acc Kt K0 hi e1 hacc ⟨T', x', y', rfl, hT', rfl, ex, ey⟩ k1 _
      have ex0 : (r.map V.int)[i]? = some x' := ex
      have ey0 : (r.map V.int)[i]? = some y' := ey
      rw [ints_at hi] at ex0 ey0
      cases ex0
      cases ey0
      refine ⟨T', _, rfl, SqT.of upd_same, rfl, _, _, rfl, _, _, rfl, rfl, rfl, yes_ ⟨_, rfl, _, rfl, _, rfl, .inl ⟨_, rfl⟩, fun H3 e3 => k1 _ _ ((Evl.Ex.new hT').trans e3) ?_⟩⟩
      rw [hacc, List.replicate_succ', List.map_append]
      rfl
    · intro acc H' e1 hacc ha'
      refine ⟨q, List.replicate r.length true, rfl, SqL.of (by rw [hacc, ha']), ?_⟩
      rw [show (List.replicate r.length true).all id = true by simp]
      exact kk _ (e0.trans e1)
def sp_same2 : Sp := fun vs H Q _ => ∃ (a b : Addr) (rs : List (List Int)), vs = [.ref a, .ref b] ∧ RowsV H a rs ∧ RowsV H b rs ∧ rs.length ≤ 60 ∧ (∀ r ∈ rs, r.length ≤ 60) ∧ RetV (.bl true) H Q
theorem ok_law_same2 (T : Txt K mg C aR aA aP) (D : Dn K mg "_law_same" s_law_same) (c_law_same : Cal P w K mg base 2 "_law_same" sp_same1) : Cal P w K mg base 3 "_law_same" sp_same2 := by
  have nd := sc_law_same.nd
  refine cal_mk D sc_law_same (fun _ _ _ _ _ _ us hl => match us, hl with | [_, _], _ => rfl) (fun vs H Q E h => ?_) (fun f cdv A outer s H vs Q E hr h => ?_)
  · obtain ⟨a, b, rs, rfl, _⟩ := h
    rfl
  · obtain ⟨a, b, rs, rfl, ⟨xs, ha, hpa⟩, ⟨ys, hb, hpb⟩, hl, hl2, kk⟩ := h
    refine ⟨_, (pss_cons
    (ps_if (pt_val (pe_callB call_isiT (by rfl) T.isinstance (by decide +kernel) (pa_cons (pv 1) (pa_cons (pe_tup (pa_cons (pe_bltn (v := .ty "list") (by rfl) T.list (by decide +kernel) rfl) (pa_cons (pe_bltn (v := .ty "tuple") (by rfl) T.tuple (by decide +kernel) rfl) pa_nil))) pa_nil))))
      (pss_cons
      (ps_if (PW.pt (pw_or (pt_cmpR op_ne (pe_callB call_isi (by rfl) T.isinstance (by decide +kernel) (pa_cons (pv 0) (pa_cons (pe_bltn (v := .ty "list") (by rfl) T.list (by decide +kernel) rfl) pa_nil))) (pe_callB call_isi (by rfl) T.isinstance (by decide +kernel) (pa_cons (pv 1) (pa_cons (pe_bltn (v := .ty "list") (by rfl) T.list (by decide +kernel) rfl) pa_nil))) (nomark _)) (pw_or1 (pt_cmpR op_ne (pe_callB call_isi (by rfl) T.isinstance (by decide +kernel) (pa_cons (pv 0) (pa_cons (pe_bltn (v := .ty "tuple") (by rfl) T.tuple (by decide +kernel) rfl) pa_nil))) (pe_callB call_isi (by rfl) T.isinstance (by decide +kernel) (pa_cons (pv 1) (pa_cons (pe_bltn (v := .ty "tuple") (by rfl) T.tuple (by decide +kernel) rfl) pa_nil))) (nomark _)))))
        (pss_one
        (ps_ret pe_bl))
        pss_nil)
      (pss_one
      (ps_ret (pe_and (pe_cmpR op_eq (pe_callB call_len_seq (by rfl) T.len PySem.boot_len (pa_cons (pv 0) pa_nil)) (pe_callB call_len_seq (by rfl) T.len PySem.boot_len (pa_cons (pv 1) pa_nil)) (nomark _)) (pe_one (pe_callB (cr_all rfl) (by rfl) T.all (by decide +kernel) (pa_cons (pe_lc (own := [("_law_x", 2), ("_law_y", 3)]) rfl nd (RZ.pi_zipA (by rfl) T.zip (pa_cons (pv 0) (pa_cons (pv 1) pa_nil))) (blkOk_by (N := ["_law_found", "_law_due", "_law_x", "_law_y"]) (sc := defScope s_law_same) (by decide +kernel)) (fun _ _ _ _ _ => (pg_tupK (n := 2) (K := K) rfl rfl (pgs_cons (pg_name (i := 2) nd rfl (Or.inl rfl)) (pgs_cons (pg_name (i := 3) nd rfl (Or.inl rfl)) pgs_nil)))) (fun _ _ _ _ _ => pts_nil) (fun _ _ _ _ _ => (pe_c c_law_same hr (by decide) rfl (pa_cons (pv 2) (pa_cons (pv 3) pa_nil))))) pa_nil)))))))
      pss_nil)
    (pss_cons
    (ps_if (pt_val (pe_callB call_isi (by rfl) T.isinstance (by decide +kernel) (pa_cons (pv 1) (pa_cons (pe_bltn (v := .ty "dict") (by rfl) T.dict (by decide +kernel) rfl) pa_nil))))
      (pss_one
      ps_never)
      pss_nil)
    (pss_cons
    (ps_if (pt_val (pe_callB call_isi (by rfl) T.isinstance (by decide +kernel) (pa_cons (pv 1) (pa_cons (pe_bltn (v := .ty "int") (by rfl) T.int (by decide +kernel) rfl) pa_nil))))
      (pss_one
      ps_never)
      pss_nil)
    (pss_one
    ps_never)))), ?_⟩
    refine ⟨_, rfl, by show 2 ≤ sizeLine; decide, fun p hp => ?_⟩
    dsimp only [tNil, tCons, tC]
    refine isi2 (K := K) upd_same (.base (.lst (Evl.Ex.new hp _ _ hb))) (b := true) (b' := false) (by decide +kernel) (by decide +kernel) ⟨_, rfl, iteT_ rfl ?_⟩
    have e0 := Evl.Ex.new (o := .tup [.ty "list", .ty "tuple"]) hp
    generalize upd H p (.tup [.ty "list", .ty "tuple"]) = H0 at e0 ⊢
    have ha0 := e0 _ _ ha
    have hb0 := e0 _ _ hb
    refine ⟨_, rfl, ?_⟩
    dsimp only [tNil, tCons, tC]
    refine isi1 (K := K) (.base (.lst ha0)) (b := true) (by decide +kernel) ⟨_, rfl, ?_⟩
    dsimp only [tNil, tCons, tC]
    refine isi1 (K := K) (.base (.lst hb0)) (b := true) (by decide +kernel) ⟨rfl, _, rfl, iteF_ (by simp) ?_⟩
    refine ⟨_, rfl, ?_⟩
    dsimp only [tNil, tCons, tC]
    refine isi1 (K := K) (.base (.lst ha0)) (b := false) (by decide +kernel) ⟨_, rfl, ?_⟩
    dsimp only [tNil, tCons, tC]
    refine isi1 (K := K) (.base (.lst hb0)) (b := false) (by decide +kernel) ⟨rfl, _, rfl, iteF_ (by simp) ?_⟩
    refine ⟨_, rfl, a, _, rfl, .inl (SqL.of ha0), _, rfl, b, _, rfl, .inl (SqL.of hb0), rfl, _, rfl, iteT_ (decide_eq_true (by rw [pd_len hpa, pd_len hpb])) ?_⟩
    refine ⟨_, rfl, _, rfl, a, b, _, _, rfl, .inl ⟨SqL.of ha0, SqL.of hb0, fun q hq => ?_⟩⟩
    refine lc_pure (walk_zip (n := rs.length) (by rw [pd_len hpa, pd_len hpb]; omega)) hq (by rw [sizeLine_eq]; omega) (fun i acc _ => acc = (List.replicate i true).map V.bl) (fun _ _ _ _ _ q => q) (fun H' e => ⟨SqL.of (e _ _ ha0), SqL.of (e _ _ hb0)⟩) rfl ?_ ?_
    · rintro i x H' H'' acc Kt K0 hi e1 hacc ⟨T', x', y', rfl, hT', rfl, ex, ey⟩ k1 _
      obtain ⟨r, hr1, hv1⟩ := pd_get hpa ex
      obtain ⟨r', hr2, hv2⟩ := pd_get hpb ey
      have er : r' = r := Option.some.inj (hr2.symm.trans hr1)
      subst er
      have e3 : Ex H (upd H' T' (.tup [x', y'])) := (e0.trans e1).trans (Evl.Ex.new hT')
      refine ⟨T', _, rfl, SqT.of upd_same, rfl, _, _, rfl, _, _, rfl, rfl, rfl, yes_ ⟨_, rfl, _, rfl, _, _, _, rfl, hv1.mono (mo_ex e3), hv2.mono (mo_ex e3), hl2 _ (List.mem_of_getElem? hr1), fun H3 e3 => k1 _ _ ((Evl.Ex.new hT').trans e3) ?_⟩⟩
      rw [hacc, List.replicate_succ', List.map_append]
      rfl
    · intro acc H' e1 hacc ha'
      refine ⟨q, List.replicate rs.length true, rfl, SqL.of (by rw [hacc, ha']), ?_⟩
      rw [show (List.replicate rs.length true).all id = true by simp]
      exact kk _ (e0.trans e1)
end
end Lk
namespace Lk
open PySem PySem.Spec PyProof.Rows L2
open Evl (Ex RetV RetL)
/-- a list of parts -/
def PartsV (H : Hp) (l : Addr) (ps : List Part) : Prop := ∃ xs, H l = some (.lst xs) ∧ Paired (PartV H) xs ps
theorem PartsV.mono {H H' : Hp} {l : Addr} {ps : List Part} (e : Ex H H') (h : PartsV H l ps) : PartsV H' l ps := let ⟨xs, h1, h2⟩ := h; ⟨xs, e _ _ h1, pd_mono h2 fun _ _ q => q.mono (mo_ex e)⟩
section
variable {P : Program} {w : World} {K : PySem.W.Frag} {mg : Str → Option Value} {base : Heap} {C aR aA aP : Addr}
/-! ### _law_lowest -/
def slot5 : List (Option V) → Int
  | _ :: _ :: _ :: _ :: _ :: some (V.int p) :: _ => p
  | _ => 0
def sp_law_lowest : Sp := fun vs H Q _ => ∃ (pg : Int) (l : Addr) (ps : List Part) (k : Nat) (x : Int), vs = [.int pg, .ref l, .int (k : Int), .int x] ∧ PartsV H l ps ∧ k < ps.length ∧ 0 < stp pg ps k ∧ RetV (.int (lift x (stp pg ps k))) H Q
theorem sc_law_lowest : FnScope ["_law_page", "_law_parts_here", "_law_k", "_law_end", "_law_is_border", "_law_place"] ["_law_page", "_law_parts_here", "_law_k", "_law_end"] (defScope s_law_lowest) := ⟨rfl, rfl, rfl, by decide +kernel, rfl, by decide +kernel, by decide +kernel⟩
theorem ok_law_lowest (T : Txt K mg C aR aA aP) (D : Dn K mg "_law_lowest" s_law_lowest) : Cal P w K mg base 1 "_law_lowest" sp_law_lowest := by
  have nd := sc_law_lowest.nd
  refine cal_mk D sc_law_lowest (fun _ _ _ _ _ _ us hl => match us, hl with | [_, _, _, _], _ => rfl) (fun vs H Q E h => ?_) (fun f cdv A outer s H vs Q E hr h => ?_)
  · obtain ⟨pg, l, ps, k, x, rfl, _⟩ := h
    rfl
  · obtain ⟨pg, l, ps, k, x, rfl, ⟨xs, hl, hP⟩, hk, hs, kk⟩ := h
    refine ⟨_, (pss_cons
    (ps_set (i := 4) nd rfl (Or.inl rfl) (pe_and (pe_cmpR op_gt (pv 2) pe_int (nomark _)) (pe_one (pe_cmpR op_ne (pe_ix ix_tup (pe_ix ix_list (pv 1) (pv 2) (fun _ _ => rfl)) pe_int (fun _ _ => rfl)) (pe_ix ix_tup (pe_ix ix_list (pv 1) (pe_op op_sub (pv 2) pe_int) (fun _ _ => rfl)) pe_int (fun _ _ => rfl)) (nomark _)))))
    (pss_cons
    (ps_set (i := 5) nd rfl (Or.inl rfl) (pv 3))
    (pss_cons
    (ps_while PassesOwn.never (pt_cmpR op_ne (pe_op op_mod (pv 5) (pe_ifExp (pt_val (pv 4)) (pv 0) (pe_ix ix_tup (pe_ix ix_list (pv 1) (pv 2) (fun _ _ => rfl)) pe_int (fun _ _ => rfl)))) pe_int (nomark _))
      (pss_one
      (ps_set (i := 5) nd rfl (Or.inl rfl) (pe_op op_add (pv 5) pe_int))))
    (pss_one
    (ps_ret (pv 5)))))), ?_⟩
    obtain ⟨b1, hb1, hp1⟩ := part_at hP hk
    have hdvd : ∀ y : Int, y % stp pg ps k = 0 → x ≤ y → y ≤ lift x (stp pg ps k) → y = lift x (stp pg ps k) := fun y hy h1 h2 => Int.le_antisymm h2 (lift_least hs (Int.dvd_of_emod_eq_zero hy) h1)
    refine ⟨_, rfl, _, _, rfl, rfl, _, rfl, ite2 (fun h0 => ?_) (fun h0 => ?_)⟩
    · have h0' : (0 : Int) < (k : Int) := of_decide_eq_true h0
      obtain ⟨b2, hb2, hp2⟩ := part_at hP (show k - 1 < ps.length by omega)
      refine ⟨_, rfl, _, rfl, l, xs, _, _, rfl, rfl, SqL.of hl, atI_nat hb1, b1, _, _, _, rfl, rfl, SqT.of hp1, rfl, _, rfl, _, rfl, _, _, rfl, rfl, l, xs, _, _, rfl, rfl, SqL.of hl, at_of (j := k - 1) (by omega) hb2, b2, _, _, _, rfl, rfl, SqT.of hp2, rfl, rfl, ?_⟩
      by_cases hri : (ps.getD k default).rights = (ps.getD (k - 1) default).rights
      · have e : (ps.getD k default).align = stp pg ps k := by
          unfold stp
          rw [if_neg fun q => q.2 hri]
        rw [hri, decide_eq_true rfl]
        rw [← e] at hs kk hdvd
        refine ⟨_, rfl, ?_⟩
        refine while_by (fun σ H' => ∃ p : Int, σ = [some (.int pg), some (.ref l), some (.int (k : Int)), some (.int x), some (.bl false), some (.int p)] ∧ Ex H H' ∧ x ≤ p ∧ p ≤ lift x (ps.getD k default).align) (fun σ _ => (lift x (ps.getD k default).align - slot5 σ).toNat) ⟨x, rfl, Evl.Ex.refl _, Int.le_refl _, lift_ge hs⟩ ?_ ?_
        · rintro σ H1 ⟨p, rfl, e1, hx1, hx2⟩
          refine ⟨_, rfl, _, rfl, false, rfl, iteF_ (by simp) ⟨_, rfl, _, rfl, l, xs, _, _, rfl, rfl, SqL.of (e1 _ _ hl), atI_nat hb1, b1, _, _, _, rfl, rfl, SqT.of (e1 _ _ hp1), rfl, _, _, rfl, rfl, hs, rfl, _, rfl, ite2 (fun h9 => ?_) (fun h9 => ?_)⟩⟩
          · have hne : ¬ p % (ps.getD k default).align = 0 := fun q => by
              have h9' : (!decide (V.int (p % (ps.getD k default).align) = V.int 0)) = true := h9
              rw [q] at h9'
              simp at h9'
            have hlt : p < lift x (ps.getD k default).align := by
              rcases Int.lt_or_eq_of_le hx2 with q | q
              · exact q
              · exact absurd (by rw [q]; exact Int.emod_eq_zero_of_dvd lift_dvd) hne
            refine ⟨_, rfl, _, _, rfl, rfl, ⟨p + 1, rfl, e1, by omega, by omega⟩, ?_⟩
            show (lift x (ps.getD k default).align - (p + 1)).toNat < (lift x (ps.getD k default).align - p).toNat
            omega
          · have h0 : p % (ps.getD k default).align = 0 := by
              refine Classical.byContradiction fun q => h9 ?_
              show (!decide (V.int (p % (ps.getD k default).align) = V.int 0)) = true
              rw [decide_eq_false fun z => q (by injection z)]
              rfl
            have ep := hdvd p h0 hx1 hx2
            subst ep
            exact ⟨_, rfl, kk _ e1⟩
        · intro σ H' Q' Q'' hQ hc
          obtain ⟨v, hv, w, hw, k, hk, hc⟩ := hc
          refine ⟨v, hv, w, hw, k, hk, ?_⟩
          cases k with
          | true =>
            obtain ⟨v0, a1, i, j, a2, a3, a4, a5, kk, a6, a7⟩ := hc
            exact iteT_ rfl ⟨v0, a1, i, j, a2, a3, a4, a5, kk, a6, hQ _ _ a7⟩
          | false =>
            obtain ⟨v1, b1, v2, b2, p, xs, i, v, c1, c2, c3, c4, p', xs', i', v', d1, d2, d3, d4, i, j, a2, a3, a4, a5, kk, a6, a7⟩ := hc
            exact iteF_ (by simp) ⟨v1, b1, v2, b2, p, xs, _, v, c1, c2, c3, c4, p', xs', i', v', d1, d2, d3, d4, i, j, a2, a3, a4, a5, kk, a6, hQ _ _ a7⟩
      · have e : pg = stp pg ps k := by
          unfold stp
          rw [if_pos ⟨by omega, hri⟩]
        rw [decide_eq_false fun q => hri (by injection q)]
        rw [← e] at hs kk hdvd
        refine ⟨_, rfl, ?_⟩
        refine while_by (fun σ H' => ∃ p : Int, σ = [some (.int pg), some (.ref l), some (.int (k : Int)), some (.int x), some (.bl true), some (.int p)] ∧ Ex H H' ∧ x ≤ p ∧ p ≤ lift x pg) (fun σ _ => (lift x pg - slot5 σ).toNat) ⟨x, rfl, Evl.Ex.refl _, Int.le_refl _, lift_ge hs⟩ ?_ ?_
        · rintro σ H1 ⟨p, rfl, e1, hx1, hx2⟩
          refine ⟨_, rfl, _, rfl, true, rfl, iteT ⟨_, rfl, _, _, rfl, rfl, hs, rfl, _, rfl, ite2 (fun h9 => ?_) (fun h9 => ?_)⟩⟩
          · have hne : ¬ p % pg = 0 := fun q => by
              have h9' : (!decide (V.int (p % pg) = V.int 0)) = true := h9
              rw [q] at h9'
              simp at h9'
            have hlt : p < lift x pg := by
              rcases Int.lt_or_eq_of_le hx2 with q | q
              · exact q
              · exact absurd (by rw [q]; exact Int.emod_eq_zero_of_dvd lift_dvd) hne
            refine ⟨_, rfl, _, _, rfl, rfl, ⟨p + 1, rfl, e1, by omega, by omega⟩, ?_⟩
            show (lift x pg - (p + 1)).toNat < (lift x pg - p).toNat
            omega
          · have h0 : p % pg = 0 := by
              refine Classical.byContradiction fun q => h9 ?_
              show (!decide (V.int (p % pg) = V.int 0)) = true
              rw [decide_eq_false fun z => q (by injection z)]
              rfl
            have ep := hdvd p h0 hx1 hx2
            subst ep
            exact ⟨_, rfl, kk _ e1⟩
        · intro σ H' Q' Q'' hQ hc
          obtain ⟨v, hv, w, hw, k, hk, hc⟩ := hc
          refine ⟨v, hv, w, hw, k, hk, ?_⟩
          cases k with
          | true =>
            obtain ⟨v0, a1, i, j, a2, a3, a4, a5, kk, a6, a7⟩ := hc
            exact iteT_ rfl ⟨v0, a1, i, j, a2, a3, a4, a5, kk, a6, hQ _ _ a7⟩
          | false =>
            obtain ⟨v1, b1, v2, b2, p, xs, i, v, c1, c2, c3, c4, p', xs', i', v', d1, d2, d3, d4, i, j, a2, a3, a4, a5, kk, a6, a7⟩ := hc
            exact iteF_ (by simp) ⟨v1, b1, v2, b2, p, xs, _, v, c1, c2, c3, c4, p', xs', i', v', d1, d2, d3, d4, i, j, a2, a3, a4, a5, kk, a6, hQ _ _ a7⟩
    · have h0' : ¬ (0 : Int) < (k : Int) := fun z => h0 (decide_eq_true z)
      have e : (ps.getD k default).align = stp pg ps k := by
        unfold stp
        rw [if_neg fun q => h0' (by have := q.1; omega)]
      rw [← e] at hs kk hdvd
      refine ⟨_, rfl, ?_⟩
      refine while_by (fun σ H' => ∃ p : Int, σ = [some (.int pg), some (.ref l), some (.int (k : Int)), some (.int x), some (.bl false), some (.int p)] ∧ Ex H H' ∧ x ≤ p ∧ p ≤ lift x (ps.getD k default).align) (fun σ _ => (lift x (ps.getD k default).align - slot5 σ).toNat) ⟨x, rfl, Evl.Ex.refl _, Int.le_refl _, lift_ge hs⟩ ?_ ?_
      · rintro σ H1 ⟨p, rfl, e1, hx1, hx2⟩
        refine ⟨_, rfl, _, rfl, false, rfl, iteF_ (by simp) ⟨_, rfl, _, rfl, l, xs, _, _, rfl, rfl, SqL.of (e1 _ _ hl), atI_nat hb1, b1, _, _, _, rfl, rfl, SqT.of (e1 _ _ hp1), rfl, _, _, rfl, rfl, hs, rfl, _, rfl, ite2 (fun h9 => ?_) (fun h9 => ?_)⟩⟩
        · have hne : ¬ p % (ps.getD k default).align = 0 := fun q => by
            have h9' : (!decide (V.int (p % (ps.getD k default).align) = V.int 0)) = true := h9
            rw [q] at h9'
            simp at h9'
          have hlt : p < lift x (ps.getD k default).align := by
            rcases Int.lt_or_eq_of_le hx2 with q | q
            · exact q
            · exact absurd (by rw [q]; exact Int.emod_eq_zero_of_dvd lift_dvd) hne
          refine ⟨_, rfl, _, _, rfl, rfl, ⟨p + 1, rfl, e1, by omega, by omega⟩, ?_⟩
          show (lift x (ps.getD k default).align - (p + 1)).toNat < (lift x (ps.getD k default).align - p).toNat
          omega
        · have h0 : p % (ps.getD k default).align = 0 := by
            refine Classical.byContradiction fun q => h9 ?_
            show (!decide (V.int (p % (ps.getD k default).align) = V.int 0)) = true
            rw [decide_eq_false fun z => q (by injection z)]
            rfl
          have ep := hdvd p h0 hx1 hx2
          subst ep
          exact ⟨_, rfl, kk _ e1⟩
      · intro σ H' Q' Q'' hQ hc
        obtain ⟨v, hv, w, hw, k, hk, hc⟩ := hc
        refine ⟨v, hv, w, hw, k, hk, ?_⟩
        cases k with
        | true =>
          obtain ⟨v0, a1, i, j, a2, a3, a4, a5, kk, a6, a7⟩ := hc
          exact iteT_ rfl ⟨v0, a1, i, j, a2, a3, a4, a5, kk, a6, hQ _ _ a7⟩
        | false =>
          obtain ⟨v1, b1, v2, b2, p, xs, i, v, c1, c2, c3, c4, p', xs', i', v', d1, d2, d3, d4, i, j, a2, a3, a4, a5, kk, a6, a7⟩ := hc
          exact iteF_ (by simp) ⟨v1, b1, v2, b2, p, xs, _, v, c1, c2, c3, c4, p', xs', i', v', d1, d2, d3, d4, i, j, a2, a3, a4, a5, kk, a6, hQ _ _ a7⟩
/-! ### _law_addresses -/
def sp_law_addresses : Sp := fun vs H Q _ => ∃ (pg : Int) (l : Addr) (ps : List Part) (z : V) (r : List Int), vs = [.int pg, .ref l, z] ∧ PartsV H l ps ∧ PlOk pg ps ∧ RowV H z r ∧ r.length = ps.length ∧ RetL (((List.range ps.length).map fun k => adr (stp pg ps) (hiR r) k).map V.int) H Q
theorem sc_law_addresses : FnScope ["_law_page", "_law_parts_here", "_law_sizes", "_law_found", "_law_end", "_law_k", "_law_size"] ["_law_page", "_law_parts_here", "_law_sizes"] (defScope s_law_addresses) := ⟨rfl, rfl, rfl, by decide +kernel, rfl, by decide +kernel, by decide +kernel⟩
def endA (st sz : Nat → Int) : Nat → Int
  | 0 => 0
  | i + 1 => adr st sz i + sz i
theorem adr_end (st sz : Nat → Int) : ∀ i, lift (endA st sz i) (st i) = adr st sz i
  | 0 => rfl
  | _ + 1 => rfl
theorem ok_law_addresses (T : Txt K mg C aR aA aP) (D : Dn K mg "_law_addresses" s_law_addresses) (c_law_lowest : Cal P w K mg base 1 "_law_lowest" sp_law_lowest) : Cal P w K mg base 2 "_law_addresses" sp_law_addresses := by
  have nd := sc_law_addresses.nd
  refine cal_mk D sc_law_addresses (fun _ _ _ _ _ _ us hl => match us, hl with | [_, _, _], _ => rfl) (fun vs H Q E h => ?_) (fun f cdv A outer s H vs Q E hr h => ?_)
  · obtain ⟨pg, l, ps, z, r, rfl, _⟩ := h
    rfl
  · obtain ⟨pg, l, ps, z, r, rfl, hP, ok, ⟨za, rfl, hz⟩, hlr, kk⟩ := h
    have hlp := ok.len
    refine ⟨_, (pss_cons
    (ps_par (i := 3) (j := 4) rfl nd rfl rfl (by decide) rfl rfl (pa_cons (pe_lst pa_nil) (pa_cons pe_int pa_nil)) (by rfl))
    (pss_cons
    (ps_for PassesOwn.never rfl (pi_enumT (by rfl) T.enumerate (pa_cons (pv 2) pa_nil)) (pg_tup rfl (pgs_cons (pg_name (i := 5) nd rfl (Or.inl rfl)) (pgs_cons (pg_name (i := 6) nd rfl (Or.inl rfl)) pgs_nil)))
      (pss_cons
      (ps_expr (pe_bm PySem.F.plainAttrs_list PySem.F.slot_list_append PySem.F.type_list_append mt_append (pv 3) (pa_cons (pe_c c_law_lowest hr (by decide) rfl (pa_cons (pv 0) (pa_cons (pv 1) (pa_cons (pv 5) (pa_cons (pv 4) pa_nil))))) pa_nil)))
      (pss_one
      (ps_set (i := 4) nd rfl (Or.inl rfl) (pe_op op_add (pe_ix ix_list (pv 3) (pe_un un_neg pe_int) (fun _ _ => rfl)) (pv 6))))))
    (pss_one
    (ps_ret (pv 3))))), ?_⟩
    refine ⟨by show 0 ≤ sizeLine; decide, fun p hp => ⟨_, _, rfl, ?_⟩⟩
    refine ⟨_, rfl, za, _, rfl, SqT.of (Evl.Ex.new hp _ _ hz), ?_⟩
    refine for_it walk_enumT (fun i σ H' => (∃ v5 v6, σ = [some (.int pg), some (.ref l), some (.ref za), some (.ref p), some (.int (endA (stp pg ps) (hiR r) i)), v5, v6]) ∧ Ex H H' ∧ H' p = some (.lst (((List.range i).map fun k => adr (stp pg ps) (hiR r) k).map V.int))) ⟨⟨_, _, rfl⟩, Evl.Ex.new hp, upd_same⟩ (fun i σ H' _ q => SqT.of (q.2.1 _ _ hz)) ?_ ?_
    · rintro i x σ H1 H2 hi ⟨⟨v5, v6, rfl⟩, e1, hp1⟩ ⟨T', x', y', rfl, hT', rfl, ex, ey⟩
      rw [List.length_map] at hi
      cases ex
      have ey0 : (r.map V.int)[i]? = some y' := ey
      rw [ints_at hi] at ey0
      cases ey0
      have e2 := e1.trans (Evl.Ex.new (o := .tup [.int (i : Int), .int (r.getD i 0)]) hT')
      have hp2 := Evl.Ex.new (o := .tup [.int (i : Int), .int (r.getD i 0)]) hT' _ _ hp1
      have hTT : (upd H1 T' (.tup [.int (i : Int), .int (r.getD i 0)])) T' = some (.tup [.int (i : Int), .int (r.getD i 0)]) := upd_same
      generalize upd H1 T' (.tup [.int (i : Int), .int (r.getD i 0)]) = H3 at e2 hp2 hTT ⊢
      refine ⟨T', _, rfl, SqT.of hTT, rfl, _, _, rfl, _, _, rfl, rfl, ?_⟩
      refine ⟨_, rfl, .inl ⟨rfl, _, SqL.of hp2⟩, _, rfl, _, rfl, _, rfl, _, rfl, pg, l, ps, i, _, rfl, hP.mono e2, by omega, ok.pos _, fun H4 e4 => ?_⟩
      have hp4 := e4 _ _ hp2
      have hpl : (((List.range i).map fun k => adr (stp pg ps) (hiR r) k).map V.int).length = i := by rw [List.length_map, List.length_map, List.length_range]
      have e24 := e2.trans e4
      rw [adr_end]
      refine ⟨p, _, _, rfl, rfl, hp4, by rw [hpl, sizeLine_eq]; omega, ?_⟩
      have enew : ((List.range i).map fun k => adr (stp pg ps) (hiR r) k).map V.int ++ [V.int (adr (stp pg ps) (hiR r) i)] = ((List.range (i + 1)).map fun k => adr (stp pg ps) (hiR r) k).map V.int := by
        rw [List.range_succ, List.map_append, List.map_append]
        rfl
      refine ⟨_, rfl, _, rfl, p, _, _, V.int (adr (stp pg ps) (hiR r) i), rfl, rfl, SqL.of upd_same, ?_, _, rfl, _, _, rfl, rfl, ?_⟩
      · exact atI_last _ _
      · refine ⟨⟨_, _, rfl⟩, Evl.Ex.mut e24 hp, ?_⟩
        rw [upd_same, enew]
    · rintro σ H1 ⟨⟨v5, v6, rfl⟩, e1, hp1⟩
      rw [List.length_map, hlr] at hp1
      exact ⟨_, rfl, kk p H1 hp e1 hp1⟩
/-! ### _law_reach -/
def reachP (pg : Int) (ps : List Part) (a b : Nat) (r : List Int) : Int := adr (stp pg ps) (hiR r) b - adr (stp pg ps) (hiR r) a
def sp_law_reach : Sp := fun vs H Q _ => ∃ (pg : Int) (l : Addr) (ps : List Part) (a b : Nat) (z : V) (r : List Int), vs = [.int pg, .ref l, .int (a : Int), .int (b : Int), z] ∧ PartsV H l ps ∧ PlOk pg ps ∧ RowV H z r ∧ r.length = ps.length ∧ a < ps.length ∧ b < ps.length ∧ RetV (.int (reachP pg ps a b r)) H Q
theorem sc_law_reach : FnScope ["_law_page", "_law_parts_here", "_law_first", "_law_second", "_law_sizes", "_law_places"] ["_law_page", "_law_parts_here", "_law_first", "_law_second", "_law_sizes"] (defScope s_law_reach) := ⟨rfl, rfl, rfl, by decide +kernel, rfl, by decide +kernel, by decide +kernel⟩
theorem ok_law_reach (D : Dn K mg "_law_reach" s_law_reach) (c_law_addresses : Cal P w K mg base 2 "_law_addresses" sp_law_addresses) : Cal P w K mg base 3 "_law_reach" sp_law_reach := by
  have nd := sc_law_reach.nd
  refine cal_mk D sc_law_reach (fun _ _ _ _ _ _ us hl => match us, hl with | [_, _, _, _, _], _ => rfl) (fun vs H Q E h => ?_) (fun f cdv A outer s H vs Q E hr h => ?_)
  · obtain ⟨pg, l, ps, a, b, z, r, rfl, _⟩ := h
    rfl
  · obtain ⟨pg, l, ps, a, b, z, r, rfl, hP, ok, hz, hlr, hla, hlb, kk⟩ := h
    refine ⟨_, (pss_cons
    (ps_set (i := 5) nd rfl (Or.inl rfl) (pe_c c_law_addresses hr (by decide) rfl (pa_cons (pv 0) (pa_cons (pv 1) (pa_cons (pv 4) pa_nil)))))
    (pss_one
    (ps_ret (pe_op op_sub (pe_ix ix_list (pv 5) (pv 3) (fun _ _ => rfl)) (pe_ix ix_list (pv 5) (pv 2) (fun _ _ => rfl)))))), ?_⟩
    have get : ∀ i, i < ps.length → (((List.range ps.length).map fun k => adr (stp pg ps) (hiR r) k).map V.int)[i]? = some (.int (adr (stp pg ps) (hiR r) i)) := fun i hi => by
      rw [List.getElem?_map, List.getElem?_map, List.getElem?_range hi]
      rfl
    refine ⟨_, rfl, _, rfl, _, rfl, pg, l, ps, z, r, rfl, hP, ok, hz, hlr, fun p H1 hp e1 hp1 => ?_⟩
    refine ⟨_, rfl, _, rfl, p, _, _, _, rfl, rfl, SqL.of hp1, atI_nat (get b hlb), _, rfl, _, rfl, p, _, _, _, rfl, rfl, SqL.of hp1, atI_nat (get a hla), _, _, rfl, rfl, kk _ e1⟩
/-! ### _law_all_sizes -/
def sp_law_all_sizes : Sp := fun vs H Q _ => ∃ (l : Addr) (ps : List Part), vs = [.ref l] ∧ PartsV H l ps ∧ ZsOk (zsP ps) ∧ RetRows (rowsP ps) H Q
theorem sc_law_all_sizes : FnScope ["_law_parts_here", "_law_part"] ["_law_parts_here"] (defScope s_law_all_sizes) := ⟨rfl, rfl, rfl, by decide +kernel, rfl, by decide +kernel, by decide +kernel⟩
theorem ok_law_all_sizes (D : Dn K mg "_law_all_sizes" s_law_all_sizes) (c_law_rows : Cal P w K mg base 1 "_law_rows" sp_rows) : Cal P w K mg base 2 "_law_all_sizes" sp_law_all_sizes := by
  have nd := sc_law_all_sizes.nd
  refine cal_mk D sc_law_all_sizes (fun _ _ _ _ _ _ us hl => match us, hl with | [_], _ => rfl) (fun vs H Q E h => ?_) (fun f cdv A outer s H vs Q E hr h => ?_)
  · obtain ⟨l, ps, rfl, _⟩ := h
    rfl
  · obtain ⟨l, ps, rfl, hP, zok, kk⟩ := h
    have hlp : ps.length ≤ 60 := by
      have := zok.len
      rwa [show (zsP ps).length = ps.length from List.length_map ..] at this
    refine ⟨_, (pss_one
    (ps_ret (pe_c c_law_rows hr (by decide) rfl (pa_cons (pe_lc (own := [("_law_part", 1)]) rfl nd (pi_listK (K := K) rfl (pv 0)) (blkOk_by (N := ["_law_parts_here", "_law_part"]) (sc := defScope s_law_all_sizes) (by decide +kernel)) (fun _ _ _ _ _ => (pg_name (i := 1) nd rfl (Or.inl rfl))) (fun _ _ _ _ _ => pts_nil) (fun _ _ _ _ _ => (pe_ix (r := rIxT K) ix_tup (pv 1) pe_int (fun _ _ => rfl)))) (pa_cons (pe_lc (own := [("_law_part", 1)]) rfl nd (pi_listK (K := K) rfl (pv 0)) (blkOk_by (N := ["_law_parts_here", "_law_part"]) (sc := defScope s_law_all_sizes) (by decide +kernel)) (fun _ _ _ _ _ => (pg_name (i := 1) nd rfl (Or.inl rfl))) (fun _ _ _ _ _ => pts_nil) (fun _ _ _ _ _ => (pe_ix (r := rIxT K) ix_tup (pv 1) pe_int (fun _ _ => rfl)))) pa_nil))))), ?_⟩
    obtain ⟨xs, hl, hpd⟩ := hP
    have hxl := pd_len hpd
    refine ⟨_, rfl, l, rfl, ⟨xs, SqL.of hl⟩, fun p hp => ?_⟩
    refine lc_pure walk_list hp (by rw [sizeLine_eq]; omega) (fun i acc _ => acc = ((ps.take i).map Part.least).map V.int) (fun _ _ _ _ _ q => q) (fun H' e => SqL.of (e _ _ hl)) rfl ?_ ?_
    · rintro i x H' H'' acc Kt K0 hi e9 ha ⟨rfl, hx⟩ k1 _
      obtain ⟨b, hb, hpb⟩ := part_at hpd (show i < ps.length by omega)
      have ex : x = .ref b := by rw [hx] at hb; exact Option.some.inj hb
      subst ex
      refine ⟨rfl, yes_ ⟨_, rfl, b, _, _, _, rfl, rfl, SqT.of (e9 _ _ hpb), rfl, k1 _ _ (Evl.Ex.refl _) ?_⟩⟩
      rw [take_snoc (show ps[i]? = some (ps.getD i default) by rw [List.getD_eq_getElem?_getD, List.getElem?_eq_getElem (by omega)]; rfl), List.map_append, ha]
      rfl
    · intro acc H1 e1 hacc ha
      rw [hxl, List.take_length] at ha
      refine ⟨_, rfl, l, rfl, ⟨xs, SqL.of (e1 _ _ hl)⟩, fun q hq => ?_⟩
      refine lc_pure walk_list hq (by rw [sizeLine_eq]; omega) (fun i acc _ => acc = ((ps.take i).map Part.most).map V.int) (fun _ _ _ _ _ q => q) (fun H' e => SqL.of (e _ _ (e1 _ _ hl))) rfl ?_ ?_
      · rintro i x H' H'' acc Kt K0 hi e9 ha ⟨rfl, hx⟩ k1 _
        obtain ⟨b, hb, hpb⟩ := part_at hpd (show i < ps.length by omega)
        have ex : x = .ref b := by rw [hx] at hb; exact Option.some.inj hb
        subst ex
        refine ⟨rfl, yes_ ⟨_, rfl, b, _, _, _, rfl, rfl, SqT.of ((e1.trans e9) _ _ hpb), rfl, k1 _ _ (Evl.Ex.refl _) ?_⟩⟩
        rw [take_snoc (show ps[i]? = some (ps.getD i default) by rw [List.getD_eq_getElem?_getD, List.getElem?_eq_getElem (by omega)]; rfl), List.map_append, ha]
        rfl
      · intro acc2 H2 e2 hacc2 ha2
        rw [hxl, List.take_length] at ha2
        refine ⟨p, q, zsP ps, rfl, ?_, ?_, zok, fun o H3 ho e3 h3 => kk o H3 (Evl.fresh_back (e1.trans e2) ho) ((e1.trans e2).trans e3) h3⟩
        · rw [e2 _ _ hacc, ha]
          unfold zsP
          rw [List.map_map, List.map_map]
          rfl
        · rw [hacc2, ha2]
          unfold zsP
          rw [List.map_map, List.map_map]
          rfl
end
end Lk
namespace Lk
open PySem PySem.Spec PyProof.Rows L2
open Evl (Ex RetV RetL)
/-! ### drawn parts -/
def W8 : List Str := ["a", "bss", "cc", "data", "e", "f", "g", "h"]
def W9 : List Str := ["a", "bss", "cc", "data", "e", "f", "g", "h", "zz"]
def R3 : List Str := ["rx", "r", "rw"]
structure PtOk (pg : Int) (p : Part) : Prop where
  wd : p.word ∈ W9
  rt : p.rights ∈ R3
  al : p.align = 1 ∨ p.align = 2 ∨ p.align = 4 ∨ p.align = 8 ∨ p.align = 16
  alp : p.align ≤ pg
  lo : 0 ≤ p.least
  hi : p.least ≤ 33
  mid : p.least ≤ p.most
  wide : p.most ≤ p.least + 9
/-- zeros behind bits -/
def Ch (ps : List Part) : Prop := ∀ ps0 p q ps1, ps = ps0 ++ p :: q :: ps1 → p.zeros = true → q.rights = p.rights → q.zeros = true
theorem Ch.nil : Ch [] := fun ps0 p q ps1 e => by simp at e
theorem Ch.snoc {ps : List Part} {q : Part} (h : Ch ps) (hq : ∀ ps0 p, ps = ps0 ++ [p] → p.zeros = true → q.rights = p.rights → q.zeros = true) : Ch (ps ++ [q]) := by
  intro ps0 p r ps1 e
  rcases List.eq_nil_or_concat ps1 with rfl | ⟨ps2, z, rfl⟩
  · have e' : ps ++ [q] = (ps0 ++ [p]) ++ [r] := by rw [e]; simp
    obtain ⟨e1, e2⟩ := List.append_inj' e' rfl
    cases e2
    exact hq ps0 p e1
  · have e' : ps ++ [q] = (ps0 ++ p :: r :: ps2) ++ [z] := by rw [e]; simp
    obtain ⟨e1, _⟩ := List.append_inj' e' rfl
    exact h ps0 p r ps2 e1
structure PsOk (pg : Int) (ps : List Part) : Prop where
  all : ∀ p ∈ ps, PtOk pg p
  nd : (ps.map Part.word).Nodup
  ch : Ch ps
theorem pd_last {α β : Type} {R : α → β → Prop} : ∀ {ys : List β} {y : β} {xs : List α}, Paired R xs (ys ++ [y]) → ∃ xs0 x, xs = xs0 ++ [x] ∧ Paired R xs0 ys ∧ R x y
  | [], y, _, .cons r .nil => ⟨[], _, rfl, .nil, r⟩
  | z :: ys, y, _, .cons r t => by
    obtain ⟨xs0, x, e, h1, h2⟩ := pd_last t
    exact ⟨_ :: xs0, x, by rw [e]; rfl, .cons r h1, h2⟩
/-! data of parts -/
def pdPart (p : Part) : PyData := .tuple [.str p.word, .str p.rights, .int p.align, .int p.least, .int p.most, .bool p.zeros]
theorem dp_part {K : PySem.W.Frag} {H : Hp} {v : V} {p : Part} (h : PartV H v p) : Dp K H v (pdPart p) := by
  obtain ⟨a, rfl, ha⟩ := h
  exact .tup (SqT.of ha) (.cons (.str _) (.cons (.str _) (.cons (.int _) (.cons (.int _) (.cons (.int _) (.cons (.bl _) .nil))))))
theorem dpAll_parts {K : PySem.W.Frag} {H : Hp} : ∀ {xs : List V} {ps : List Part}, Paired (PartV H) xs ps → DpAll K H xs (ps.map pdPart)
  | _, _, .nil => .nil
  | _, _, .cons r t => .cons (dp_part r) (dpAll_parts t)
theorem strOk_w : ∀ x ∈ W9, PyData.strOk x = true := by decide +kernel
theorem strOk_r : ∀ x ∈ R3, PyData.strOk x = true := by decide +kernel
theorem canLay_parts {pg : Int} : ∀ ps : List Part, (∀ p ∈ ps, PtOk pg p) → PyData.canLayAll0 (ps.map pdPart) = true
  | [], _ => by simp [PyData.canLayAll0]
  | p :: ps, h => by
    have h1 := h p (List.mem_cons_self ..)
    have ih := canLay_parts ps fun q hq => h q (List.mem_cons_of_mem _ hq)
    rw [List.map_cons]
    simp [PyData.canLayAll0, PyData.canLay0, ih, pdPart, strOk_w _ h1.wd, strOk_r _ h1.rt]
theorem depthAll_parts : ∀ ps : List Part, PyData.depthAll (ps.map pdPart) ≤ 1
  | [] => Nat.zero_le _
  | p :: ps => by
    rw [List.map_cons]
    show max (PyData.depth (pdPart p)) (PyData.depthAll (ps.map pdPart)) ≤ 1
    have := depthAll_parts ps
    have e : PyData.depth (pdPart p) = 1 := rfl
    omega
theorem shaped_parts {pg : Int} (ps : List Part) (h : ∀ p ∈ ps, PtOk pg p) : SeqAt.shaped (.list (ps.map pdPart)) = true := by
  unfold SeqAt.shaped
  rw [Bool.and_eq_true]
  refine ⟨?_, decide_eq_true ?_⟩
  · simp only [PyData.canLay0, canLay_parts ps h]
  · show PyData.depthAll (ps.map pdPart) + 1 ≤ 64
    have := depthAll_parts ps
    omega
theorem eqv_parts_nil (ps : List Part) : PyData.eqv (.list (ps.map pdPart)) (.list []) = decide (ps = []) := by
  simp only [PyData.eqv]
  cases ps <;> simp [PyData.eqvAll]
/-! what stands while parts are drawn -/
structure Kp (a w f : Addr) (H : Hp) (ws : List Str) (ps : List Part) (n : Nat) (H' : Hp) : Prop where
  ex : ExS a H H'
  src : Src n H' a
  wd : H' w = some (.lst (ws.map V.str))
  pt : PartsV H' f ps
theorem PartsV.exs {a f : Addr} {n : Nat} {H H' : Hp} {ps : List Part} (h : PartsV H f ps) (s : Src n H a) (e : ExS a H H') (hf : f ≠ a) : PartsV H' f ps := let ⟨xs, h1, h2⟩ := h; ⟨xs, e _ _ hf h1, pd_mono h2 fun _ _ q => q.mono (mo_s s e)⟩
theorem Kp.step {a w f : Addr} {H : Hp} {ws : List Str} {ps : List Part} {n m : Nat} {H' H'' : Hp} (k : Kp a w f H ws ps n H') (hw : w ≠ a) (hf : f ≠ a) (e : ExS a H' H'') (s : Src m H'' a) : Kp a w f H ws ps m H'' :=
  ⟨k.ex.trans e, s, e _ _ hw k.wd, k.pt.exs k.src e hf⟩
theorem Kp.ext {a w f : Addr} {H : Hp} {ws : List Str} {ps : List Part} {n : Nat} {H' H'' : Hp} (k : Kp a w f H ws ps n H') (e : Ex H' H'') : Kp a w f H ws ps n H'' :=
  ⟨k.ex.trans (exs e), k.src.ex e, e _ _ k.wd, k.pt.mono e⟩
section
variable {P : Program} {w : World} {K : PySem.W.Frag} {mg : Str → Option Value} {base : Heap} {C aR aA aP : Addr}
/-! ### _law_parts -/
def sp_law_parts : Sp := fun vs H Q _ => ∃ (a : Addr) (pg : Int) (m : Nat) (sp : Int) (N : Nat), vs = [.ref a, .int pg, .int (m : Int), .int sp] ∧ 8 ≤ pg ∧ pg ≤ 32 ∧ 1 ≤ m ∧ m ≤ 5 ∧ 2 ≤ sp ∧ sp ≤ 9 ∧ Src N H a ∧ N + 1000 < 1000000 ∧
  ∀ p H' ps, H p = none → ExS a H H' → Src (N + 100) H' a → PartsV H' p ps → PsOk pg ps → ps.length = m → (∀ q ∈ ps, q.word ∈ W8) → Q (.ref p) H'
theorem sc_law_parts : FnScope ["_law_source_here", "_law_page", "_law_many", "_law_spread", "_law_words", "_law_found", "_law_rights", "_law_word", "_law_least", "_law_zeros", "_law_align", "_law_more", "_law_one"] ["_law_source_here", "_law_page", "_law_many", "_law_spread"] (defScope s_law_parts) := ⟨rfl, rfl, rfl, by decide +kernel, rfl, by decide +kernel, by decide +kernel⟩
theorem ok_law_parts (T : Txt K mg C aR aA aP) (D : Dn K mg "_law_parts" s_law_parts) (c_law_mixed : Cal P w K mg base 2 "_law_mixed" sp_mixed) (c_law_pick : Cal P w K mg base 2 "_law_pick" sp_pick) (c_law_draw : Cal P w K mg base 1 "_law_draw" sp_draw) : Cal P w K mg base 3 "_law_parts" sp_law_parts := by
  have nd := sc_law_parts.nd
  refine cal_mk D sc_law_parts (fun _ _ _ _ _ _ us hl => match us, hl with | [_, _, _, _], _ => rfl) (fun vs H Q E h => ?_) (fun fa cdv A outer s H vs Q E hr h => ?_)
  · obtain ⟨a, pg, m, sp, N, rfl, _⟩ := h
    rfl
  · obtain ⟨a, pg, m, sp, N, rfl, hpg1, hpg2, hm1, hm2, hsp1, hsp2, hs, hN, kk⟩ := h
    have hu64 := hu64_of hr
    refine ⟨_, (pss_cons
    (ps_par (i := 4) (j := 5) rfl nd rfl rfl (by decide) rfl rfl (pa_cons (pe_slice sl_list (pe_c c_law_mixed hr (by decide) rfl (pa_cons (pv 0) (pa_cons (pe_lst (pa_cons pe_str (pa_cons pe_str (pa_cons pe_str (pa_cons pe_str (pa_cons pe_str (pa_cons pe_str (pa_cons pe_str (pa_cons pe_str pa_nil))))))))) pa_nil))) po_none (po_some (pv 2))) (pa_cons (pe_lst pa_nil) pa_nil)) (by rfl))
    (pss_cons
    (ps_set (i := 6) nd rfl (Or.inl rfl) (pe_c c_law_pick hr (by decide) rfl (pa_cons (pv 0) (pa_cons (pe_lst (pa_cons pe_str (pa_cons pe_str (pa_cons pe_str pa_nil)))) pa_nil))))
    (pss_cons
    (ps_for PassesOwn.never rfl (pi_listK (K := K) rfl (pv 4)) (pg_name (i := 7) nd rfl (Or.inl rfl))
      (C8.pss_cut
      (ps_if (pt_cmpR op_eq (pe_c c_law_draw hr (by decide) rfl (pa_cons (pv 0) (pa_cons pe_int pa_nil))) pe_int (nomark _))
        (pss_one
        (ps_set (i := 6) nd rfl (Or.inl rfl) (pe_c c_law_pick hr (by decide) rfl (pa_cons (pv 0) (pa_cons (pe_lst (pa_cons pe_str (pa_cons pe_str (pa_cons pe_str pa_nil)))) pa_nil)))))
        pss_nil)
      (pss_cons
      (ps_set (i := 8) nd rfl (Or.inl rfl) (pe_c c_law_pick hr (by decide) rfl (pa_cons (pv 0) (pa_cons (pe_lst (pa_cons pe_int (pa_cons pe_int (pa_cons pe_int (pa_cons pe_int (pa_cons pe_int (pa_cons pe_int (pa_cons (pv 1) (pa_cons (pe_op op_add (pv 1) pe_int) pa_nil))))))))) pa_nil))))
      (C8.pss_cut
      (ps_set (i := 9) nd rfl (Or.inl rfl) (pe_or (pe_cmpR op_eq (pe_c c_law_draw hr (by decide) rfl (pa_cons (pv 0) (pa_cons pe_int pa_nil))) pe_int (nomark _)) (pe_one (pe_and (pe_cmpR (r := rNeD K) (op_neD hu64) (pv 5) (pe_lst pa_nil) (nomark _)) (pe_and (pe_ix ix_tup (pe_ix ix_list (pv 5) (pe_un un_neg pe_int) (fun _ _ => rfl)) pe_int (fun _ _ => rfl)) (pe_one (pe_cmpR op_eq (pe_ix ix_tup (pe_ix ix_list (pv 5) (pe_un un_neg pe_int) (fun _ _ => rfl)) pe_int (fun _ _ => rfl)) (pv 6) (nomark _))))))))
      (pss_cons
      (ps_set (i := 10) nd rfl (Or.inl rfl) (pe_ix ix_list (pe_lc (own := [("_law_one", 12)]) rfl nd (pi_listK (K := K) rfl (pe_op op_cat (pe_lst (pa_cons (pe_c c_law_pick hr (by decide) rfl (pa_cons (pv 0) (pa_cons (pe_lst (pa_cons pe_int (pa_cons pe_int (pa_cons pe_int (pa_cons pe_int (pa_cons pe_int (pa_cons pe_int pa_nil))))))) pa_nil))) pa_nil)) (pe_lst (pa_cons pe_int pa_nil)))) (blkOk_by (N := ["_law_source_here", "_law_page", "_law_many", "_law_spread", "_law_words", "_law_found", "_law_rights", "_law_word", "_law_least", "_law_zeros", "_law_align", "_law_more", "_law_one"]) (sc := defScope s_law_parts) (by decide +kernel)) (fun _ _ _ _ _ => (pg_name (i := 12) nd rfl (Or.inl rfl))) (fun _ _ _ _ _ => (pts_one (pt_cmpR op_le (pv 12) (pv 1) (nomark _)))) (fun _ _ _ _ _ => (pv 12))) pe_int (fun _ _ => rfl)))
      (pss_cons
      (ps_set (i := 11) nd rfl (Or.inl rfl) (pe_c c_law_pick hr (by decide) rfl (pa_cons (pv 0) (pa_cons (pe_lst (pa_cons pe_int (pa_cons pe_int (pa_cons pe_int (pa_cons (pv 3) (pa_cons (pe_c c_law_draw hr (by decide) rfl (pa_cons (pv 0) (pa_cons (pe_op op_add (pv 3) pe_int) pa_nil))) pa_nil)))))) pa_nil))))
      (pss_one
      (ps_expr (pe_bm PySem.F.plainAttrs_list PySem.F.slot_list_append PySem.F.type_list_append mt_append (pv 5) (pa_cons (pe_tup (pa_cons (pv 7) (pa_cons (pv 6) (pa_cons (pv 10) (pa_cons (pv 8) (pa_cons (pe_op op_add (pv 8) (pv 11)) (pa_cons (pv 9) pa_nil))))))) pa_nil))))))))))
    (pss_one
    (ps_ret (pv 5)))))), ?_⟩
    refine ⟨_, rfl, by show 8 ≤ sizeLine; decide, fun l hl => ⟨a, l, N, W8, rfl, upd_same, (hs.ne hl).symm, by decide, by decide +kernel, hs.ex (Evl.Ex.new hl), by omega, fun p H1 ys hp e1 s1 h1 hperm => ?_⟩⟩
    have hyl : ys.length = 8 := hperm.length_eq
    refine ⟨_, rfl, _, rfl, p, _, rfl, SqL.of h1, fun w hw => ?_⟩
    rw [cut_take (by rw [List.length_map]; omega), ← List.map_take]
    refine ⟨by show 0 ≤ sizeLine; decide, fun f hf => ⟨_, _, rfl, ?_⟩⟩
    have e01 : ExS a H H1 := (exs (Evl.Ex.new hl)).trans e1
    have hw0 : H w = none := e01.back s1 hw
    have hf1 : H1 f = none := Evl.fresh_back (Evl.Ex.new hw) hf
    have hf0 : H f = none := e01.back s1 hf1
    have nwa : w ≠ a := (hs.ne hw0).symm
    have nfa : f ≠ a := (hs.ne hf0).symm
    have nwf : w ≠ f := ne_of_none upd_same hf
    have k2 : Kp a w f H (ys.take m) [] (N + 8) (upd (upd H1 w (.lst ((ys.take m).map V.str))) f (.lst [])) := ⟨e01.trans (exs ((Evl.Ex.new hw).trans (Evl.Ex.new hf))), s1.ex ((Evl.Ex.new hw).trans (Evl.Ex.new hf)), Evl.Ex.new hf _ _ upd_same, [], upd_same, .nil⟩
    generalize upd (upd H1 w (.lst ((ys.take m).map V.str))) f (.lst []) = H2 at k2 ⊢
    refine ⟨_, rfl, by show 3 ≤ sizeLine; decide, fun l2 hl2 => ⟨a, l2, _, R3.map V.str, rfl, upd_same, (k2.src.ne hl2).symm, by decide, by decide, k2.src.ex (Evl.Ex.new hl2), by omega, fun H3 x hx e3 s3 => ?_⟩⟩
    have k3 := (k2.ext (Evl.Ex.new hl2)).step nwa nfa e3 s3
    obtain ⟨rt0, hrt0, rfl⟩ := List.mem_map.mp hx
    refine ⟨_, rfl, w, rfl, ⟨_, SqL.of k3.wd⟩, ?_⟩
    refine for_it (walk_list (xs := (ys.take m).map V.str)) (fun i σ H' => ∃ rt ps v7 v8 v9 v10 v11 v12, σ = [some (.ref a), some (.int pg), some (.int (m : Int)), some (.int sp), some (.ref w), some (.ref f), some (.str rt), v7, v8, v9, v10, v11, v12] ∧ rt ∈ R3 ∧ Kp a w f H (ys.take m) ps (N + 9 + 7 * i) H' ∧ ps.map Part.word = (ys.take m).take i ∧ (∀ q ∈ ps, PtOk pg q) ∧ Ch ps) ⟨rt0, [], _, _, _, _, _, _, rfl, hrt0, k3, rfl, fun _ q => (nomatch q), Ch.nil⟩ (fun i σ H' _ q => ?_) ?_ ?_
    · obtain ⟨_, _, _, _, _, _, _, _, _, _, k, _⟩ := q
      exact SqL.of k.wd
    · rintro i x σ H4 H5 hi ⟨rt, ps, v7, v8, v9, v10, v11, v12, rfl, hrt, k4, hwds, hall, hch⟩ ⟨rfl, hx⟩
      rw [List.length_map] at hi
      have hi8 : i < 8 := by
        rw [List.length_take] at hi
        omega
      have hx0 : ((ys.take m).map V.str)[i]? = some x := hx
      rw [List.getElem?_map, List.getElem?_eq_getElem hi] at hx0
      obtain ⟨wd, hwd⟩ : ∃ wd, wd = (ys.take m)[i] := ⟨_, rfl⟩
      rw [← hwd] at hx0
      have ex : x = .str wd := (Option.some.inj hx0).symm
      subst ex
      have hwd8 : wd ∈ W8 := hperm.mem_iff.mp (List.mem_of_mem_take (by rw [hwd]; exact List.getElem_mem hi))
      refine ⟨fun σ' H' => ∃ rt, rt ∈ R3 ∧ σ' = [some (.ref a), some (.int pg), some (.int (m : Int)), some (.int sp), some (.ref w), some (.ref f), some (.str rt), some (.str wd), v8, v9, v10, v11, v12] ∧ Kp a w f H (ys.take m) ps (N + 9 + 7 * i + 2) H', ?_, ?_⟩
      · refine ⟨_, rfl, a, 3, _, rfl, by decide, by decide, k4.src, by omega, fun H6 k e6 s6 hk => ⟨rfl, _, rfl, ite2 (fun h0 => ?_) (fun h0 => ?_)⟩⟩
        · have k6 := k4.step nwa nfa e6 s6
          refine ⟨_, rfl, by show 3 ≤ sizeLine; decide, fun l2 hl2 => ⟨a, l2, _, R3.map V.str, rfl, upd_same, (k6.src.ne hl2).symm, by decide, by decide, k6.src.ex (Evl.Ex.new hl2), by omega, fun H7 x hx e7 s7 => ?_⟩⟩
          obtain ⟨rt1, hrt1, rfl⟩ := List.mem_map.mp hx
          exact ⟨rt1, hrt1, rfl, (k6.ext (Evl.Ex.new hl2)).step nwa nfa e7 s7⟩
        · exact ⟨rt, hrt, rfl, k4.step nwa nfa e6 (s6.weak (by omega))⟩
      rintro σ H6 ⟨rt, hrt, rfl, k6⟩
      refine ⟨_, rfl, _, rfl, _, rfl, _, _, rfl, rfl, by show 8 ≤ sizeLine; decide, fun l2 hl2 => ⟨a, l2, _, _, rfl, upd_same, (k6.src.ne hl2).symm, by simp, by simp, k6.src.ex (Evl.Ex.new hl2), by omega, fun H7 x hx e7 s7 => ?_⟩⟩
      have k7 := (k6.ext (Evl.Ex.new hl2)).step nwa nfa e7 s7
      obtain ⟨lo, rfl, hlo1, hlo2⟩ : ∃ lo, x = V.int lo ∧ 0 ≤ lo ∧ lo ≤ 33 := by
        simp only [List.mem_cons, List.not_mem_nil, or_false] at hx
        rcases hx with rfl | rfl | rfl | rfl | rfl | rfl | rfl | rfl <;> exact ⟨_, rfl, by omega, by omega⟩
      refine ⟨fun σ' H' => ∃ z : Bool, σ' = [some (.ref a), some (.int pg), some (.int (m : Int)), some (.int sp), some (.ref w), some (.ref f), some (.str rt), some (.str wd), some (.int lo), some (.bl z), v10, v11, v12] ∧ Kp a w f H (ys.take m) ps (N + 9 + 7 * i + 4) H' ∧ (∀ ps0 p, ps = ps0 ++ [p] → p.zeros = true → rt = p.rights → z = true), ?_, ?_⟩
      · refine ⟨_, rfl, a, 5, _, rfl, by decide, by decide, k7.src, by omega, fun H8 k e8 s8 hk => ⟨rfl, _, rfl, ite2 (fun h0 => ?_) (fun h0 => ?_)⟩⟩
        · exact ⟨true, rfl, k7.step nwa nfa e8 s8, fun _ _ _ _ _ => rfl⟩
        · have k8 := k7.step nwa nfa e8 s8
          obtain ⟨xs, hxs, hpd⟩ := k8.pt
          refine ⟨_, rfl, by show 0 ≤ sizeLine; decide, fun r hr' => ?_⟩
          have er := Evl.Ex.new (o := .lst []) hr'
          have k9 := k8.ext er
          have hxs9 := er _ _ hxs
          have hpd9 := pd_mono hpd fun _ _ (h : PartV H8 _ _) => h.mono (mo_ex er)
          have hr9 : (upd H8 r (.lst [])) r = some (.lst []) := upd_same
          generalize upd H8 r (.lst []) = H9 at k9 hxs9 hpd9 hr9 ⊢
          refine ⟨.list (ps.map pdPart), .list [], .lst (SqL.of hxs9) (dpAll_parts hpd9), .lst (SqL.of hr9) .nil, shaped_parts ps hall, by decide, _, rfl, ?_⟩
          rw [eqv_parts_nil]
          refine ite2 (fun h1 => ?_) (fun h1 => ?_)
          · rcases List.eq_nil_or_concat ps with rfl | ⟨ps0, p, rfl⟩
            · simp at h1
            rw [List.concat_eq_append] at hpd9
            obtain ⟨xs0, x, rfl, _, b, rfl, hb⟩ := pd_last hpd9
            refine ⟨_, rfl, 1, rfl, f, _, _, _, rfl, rfl, SqL.of hxs9, atI_last _ _, b, _, _, _, rfl, rfl, SqT.of hb, rfl, _, rfl, ite2 (fun h2 => ?_) (fun h2 => ?_)⟩
            · refine ⟨_, rfl, 1, rfl, f, _, _, _, rfl, rfl, SqL.of hxs9, atI_last _ _, b, _, _, _, rfl, rfl, SqT.of hb, rfl, _, rfl, rfl, ?_⟩
              refine ⟨_, rfl, k9, fun ps1 q e hz hrr => ?_⟩
              rw [List.concat_eq_append] at e
              obtain ⟨_, e2⟩ := List.append_inj' e rfl
              cases e2
              rw [hrr]
              exact decide_eq_true rfl
            · refine ⟨false, rfl, k9, fun ps1 q e hz hrr => ?_⟩
              rw [List.concat_eq_append] at e
              obtain ⟨_, e2⟩ := List.append_inj' e rfl
              cases e2
              exact absurd hz h2
          · refine ⟨false, rfl, k9, fun ps1 q e hz hrr => ?_⟩
            rw [e] at h1
            simp at h1
      rintro σ H8 ⟨z, rfl, k8, hz⟩
      refine ⟨_, rfl, by show 6 ≤ sizeLine; decide, fun l3 hl3 => ⟨a, l3, _, _, rfl, upd_same, (k8.src.ne hl3).symm, by simp, by simp, k8.src.ex (Evl.Ex.new hl3), by omega, fun H9 x hx e9 s9 => ?_⟩⟩
      have k9 := (k8.ext (Evl.Ex.new hl3)).step nwa nfa e9 s9
      obtain ⟨al0, rfl, hal0⟩ : ∃ al, x = V.int al ∧ (al = 1 ∨ al = 2 ∨ al = 4 ∨ al = 8 ∨ al = 16) := by
        simp only [List.mem_cons, List.not_mem_nil, or_false] at hx
        rcases hx with rfl | rfl | rfl | rfl | rfl | rfl <;> exact ⟨_, rfl, by decide⟩
      obtain ⟨al, rest, hal, hal1, hal2⟩ : ∃ al rest, [al0, 1].filter (fun y => decide (y ≤ pg)) = al :: rest ∧ (al = 1 ∨ al = 2 ∨ al = 4 ∨ al = 8 ∨ al = 16) ∧ al ≤ pg := by
        by_cases q : al0 ≤ pg
        · exact ⟨al0, _, List.filter_cons_of_pos (decide_eq_true q), hal0, q⟩
        · rw [List.filter_cons_of_neg (by simpa using q)]
          exact ⟨1, _, List.filter_cons_of_pos (decide_eq_true (by omega)), .inl rfl, by omega⟩
      refine ⟨by show 1 ≤ sizeLine; decide, fun l4 hl4 => ⟨by show 1 ≤ sizeLine; decide, fun l5 hl5 => ⟨l4, l5, _, _, rfl, rfl, Evl.Ex.new hl5 _ _ upd_same, upd_same, by show 1 + 1 ≤ sizeLine; decide, fun l6 hl6 => ?_⟩⟩⟩
      have e10 := ((Evl.Ex.new (o := .lst [V.int al0]) hl4).trans (Evl.Ex.new (o := .lst [V.int 1]) hl5)).trans (Evl.Ex.new (o := .lst ([V.int al0] ++ [V.int 1])) hl6)
      have h10 : (upd (upd (upd H9 l4 (.lst [V.int al0])) l5 (.lst [V.int 1])) l6 (.lst ([V.int al0] ++ [V.int 1]))) l6 = some (.lst (([al0, 1] : List Int).map V.int)) := upd_same
      generalize upd (upd (upd H9 l4 (.lst [V.int al0])) l5 (.lst [V.int 1])) l6 (.lst ([V.int al0] ++ [V.int 1])) = H10 at e10 h10 ⊢
      have k10 := k9.ext e10
      refine ⟨l6, rfl, ⟨_, SqL.of h10⟩, fun p hp => ?_⟩
      refine lc_pure (walk_list (xs := ([al0, 1] : List Int).map V.int)) hp (by show 2 ≤ sizeLine; decide) (fun i acc _ => acc = ((([al0, 1] : List Int).take i).filter fun y => decide (y ≤ pg)).map V.int) (fun _ _ _ _ _ q => q) (fun H' e => SqL.of (e _ _ h10)) rfl ?_ ?_
      · rintro j y H11 H12 acc Kt K0 hj e11 hacc ⟨rfl, hy⟩ k1 k0
        have hy0 : (([al0, 1] : List Int).map V.int)[j]? = some y := hy
        rw [List.getElem?_map] at hy0
        obtain ⟨u, hu, rfl⟩ := Option.map_eq_some_iff.mp hy0
        have hft := filter_take (f := fun y => decide (y ≤ pg)) hu
        refine ⟨rfl, _, rfl, _, rfl, _, _, rfl, rfl, _, rfl, ite2 (fun h2 => ?_) (fun h2 => ?_)⟩
        · refine ⟨_, rfl, k1 _ _ (Evl.Ex.refl _) ?_⟩
          rw [hft, if_pos h2, List.map_append, hacc]
          rfl
        · refine k0 _ (Evl.Ex.refl _) ?_
          rw [hft, if_neg h2, List.append_nil, hacc]
      · intro acc H11 e11 hacc ha
        have k11 := k10.ext e11
        have ha' : acc = V.int al :: rest.map V.int := by
          rw [ha]
          show (([al0, 1] : List Int).filter fun y => decide (y ≤ pg)).map V.int = _
          rw [hal]
          rfl
        subst ha'
        refine ⟨p, _, _, V.int al, rfl, rfl, SqL.of hacc, atI_nat (j := 0) rfl, ?_⟩
        refine ⟨_, rfl, _, rfl, _, rfl, _, rfl, _, _, rfl, rfl, a, _, _, rfl, by omega, by omega, k11.src, by omega, fun H12 k e12 s12 hk => ?_⟩
        have k12 := k11.step nwa nfa e12 s12
        refine ⟨by show 5 ≤ sizeLine; decide, fun l7 hl7 => ⟨a, l7, _, _, rfl, upd_same, (k12.src.ne hl7).symm, by simp, by simp, k12.src.ex (Evl.Ex.new hl7), by omega, fun H13 x hx e13 s13 => ?_⟩⟩
        have k13 := (k12.ext (Evl.Ex.new hl7)).step nwa nfa e13 s13
        obtain ⟨mo, rfl, hmo1, hmo2⟩ : ∃ mo, x = V.int mo ∧ 0 ≤ mo ∧ mo ≤ 9 := by
          simp only [List.mem_cons, List.not_mem_nil, or_false] at hx
          rcases hx with rfl | rfl | rfl | rfl | rfl <;> exact ⟨_, rfl, by omega, by omega⟩
        obtain ⟨xs, hxs, hpd⟩ := k13.pt
        have hpl := pd_len hpd
        have hpsl : ps.length ≤ 8 := by
          have := congrArg List.length hwds
          rw [List.length_map, List.length_take] at this
          omega
        refine ⟨_, rfl, .inl ⟨rfl, _, SqL.of hxs⟩, _, rfl, _, rfl, _, rfl, _, rfl, _, rfl, _, rfl, _, _, rfl, rfl, _, rfl, by show 6 ≤ sizeLine; decide, fun t ht => ?_⟩
        have et := Evl.Ex.new (o := .tup [V.str wd, V.str rt, V.int al, V.int lo, V.int (lo + mo), V.bl z]) ht
        have k14 := k13.ext et
        have h14 := et _ _ hxs
        have ht14 : (upd H13 t (.tup [V.str wd, V.str rt, V.int al, V.int lo, V.int (lo + mo), V.bl z])) t = some (.tup (Part.vals ⟨wd, rt, al, lo, lo + mo, z⟩)) := upd_same
        have hpd14 := pd_mono hpd fun _ _ (h : PartV H13 _ _) => h.mono (mo_ex et)
        generalize upd H13 t (.tup [V.str wd, V.str rt, V.int al, V.int lo, V.int (lo + mo), V.bl z]) = H14 at k14 h14 ht14 hpd14 ⊢
        refine ⟨f, xs, _, rfl, rfl, h14, by rw [hpl, sizeLine_eq]; omega, ?_⟩
        refine ⟨rt, ps ++ [⟨wd, rt, al, lo, lo + mo, z⟩], _, _, _, _, _, _, rfl, hrt, ⟨k14.ex.mut hf0, ?_, ?_, xs ++ [.ref t], upd_same, ?_⟩, ?_, ?_, ?_⟩
        · obtain ⟨x1, x2, x3, h, r⟩ := k14.src
          refine ⟨x1, x2, x3, by rw [upd_ne (Ne.symm nfa)]; exact h, r.1, r.2.1, r.2.2.1, r.2.2.2.1, ?_⟩
          have := r.2.2.2.2
          omega
        · rw [upd_ne nwf]
          exact k14.wd
        · exact pd_mono (pd_snoc hpd14 ⟨t, rfl, ht14⟩) fun _ _ h => h.mono (mo_lst h14)
        · rw [List.map_append, hwds, List.take_add_one, List.getElem?_eq_getElem hi, ← hwd]
          rfl
        · intro q hq
          rcases List.mem_append.mp hq with hq | hq
          · exact hall q hq
          · rw [List.mem_singleton.mp hq]
            exact ⟨by revert hwd8; simp only [W8, W9, List.mem_cons]; intro h; rcases h with h | h | h | h | h | h | h | h | h <;> simp [h] <;> exact absurd h (by simp), hrt, hal1, hal2, hlo1, hlo2, by show lo ≤ lo + mo; omega, by show lo + mo ≤ lo + 9; omega⟩
        · exact hch.snoc hz
    · rintro σ H4 ⟨rt, ps, v7, v8, v9, v10, v11, v12, rfl, hrt, k4, hwds, hall, hch⟩
      rw [List.length_map, List.take_length] at hwds
      have hlen := congrArg List.length hwds
      rw [List.length_map, List.length_take, hyl] at hlen
      have hlm : ((ys.take m).map V.str).length ≤ 8 := by rw [List.length_map, List.length_take]; omega
      have hnd : (ys.take m).Nodup := List.Sublist.nodup (List.take_sublist _ _) (hperm.nodup_iff.mpr (by decide +kernel))
      refine ⟨_, rfl, kk f H4 ps hf0 k4.ex (k4.src.weak (by omega)) k4.pt ⟨hall, by rw [hwds]; exact hnd, hch⟩ (by omega) fun q hq => ?_⟩
      have : q.word ∈ ps.map Part.word := List.mem_map.mpr ⟨q, hq, rfl⟩
      rw [hwds] at this
      exact hperm.mem_iff.mp (List.mem_of_mem_take this)
end
end Lk
namespace Lk
open PySem PySem.Spec PyProof.Rows L2
open Evl (Ex RetV RetL)
/-- a part as it stands, or with its least alone -/
def Sh (q q' : Part) : Prop := q' = q ∨ q' = { q with most := q.least }
theorem Ch.congr {ps ps' : List Part} (e : ps'.map (fun p => (p.zeros, p.rights)) = ps.map (fun p => (p.zeros, p.rights))) (h : Ch ps) : Ch ps' := by
  intro p0 p q p1 e1 hz hr
  rw [e1] at e
  rw [List.map_append, List.map_cons, List.map_cons] at e
  obtain ⟨a0, a1, ea, e2, e3⟩ := List.map_eq_append_iff.mp e.symm
  obtain ⟨p', a2, ea2, e4, e5⟩ := List.map_eq_cons_iff.mp e3
  obtain ⟨q', a3, ea3, e6, e7⟩ := List.map_eq_cons_iff.mp e5
  subst ea3 ea2
  injection e4 with e4a e4b
  injection e6 with e6a e6b
  rw [← e6a]
  exact h a0 p' q' a3 ea (by rw [e4a]; exact hz) (by rw [e6b, e4b]; exact hr)
theorem sh_map {β : Type} {g : Part → β} (hg : ∀ q, g { q with most := q.least } = g q) : ∀ {ps ps' : List Part}, Paired Sh ps ps' → ps'.map g = ps.map g
  | _, _, .nil => rfl
  | _, _, .cons r t => by
    rw [List.map_cons, List.map_cons, sh_map hg t]
    rcases r with rfl | rfl
    · rfl
    · rw [hg]
theorem sh_ok {pg : Int} {ps ps' : List Part} (h : Paired Sh ps ps') (ok : PsOk pg ps) : PsOk pg ps' := by
  refine ⟨fun q' hq' => ?_, ?_, ok.ch.congr (sh_map (fun _ => rfl) h)⟩
  · obtain ⟨q, hq, r⟩ := pd_mem' h hq'
    have hp := ok.all q hq
    rcases r with rfl | rfl
    · exact hp
    · exact ⟨hp.wd, hp.rt, hp.al, hp.alp, hp.lo, hp.hi, Int.le_refl _, by show q.least ≤ q.least + 9; omega⟩
  · rw [sh_map (g := Part.word) (fun _ => rfl) h]
    exact ok.nd
theorem zsP_snoc (ps : List Part) (q : Part) : zsP (ps ++ [q]) = zsP ps ++ [(q.least, q.most)] := by
  unfold zsP
  rw [List.map_append]
  rfl
theorem cut4 (q : Part) : cutV q.vals none (some 4) = [.str q.word, .str q.rights, .int q.align, .int q.least] := rfl
section
variable {P : Program} {w : World} {K : PySem.W.Frag} {mg : Str → Option Value} {base : Heap} {C aR aA aP : Addr}
/-! ### _law_few -/
def sp_law_few : Sp := fun vs H Q _ => ∃ (a : Addr) (N : Nat), vs = [.ref a, .int 60] ∧ Src N H a ∧ N + 2000 < 1000000 ∧
  ∀ (t p : Addr) (H' : Hp) (pg : Int) (ps : List Part), H p = none → ExS a H H' → Src (N + 200) H' a → H' t = some (.tup [.int pg, .ref p]) → PartsV H' p ps → (pg = 8 ∨ pg = 16 ∨ pg = 32) → PsOk pg ps → 1 ≤ ps.length → ps.length ≤ 5 → (∀ q ∈ ps, q.word ∈ W8) → wides (zsP ps) ≤ 60 → Q (.ref t) H'
theorem sc_law_few : FnScope ["_law_source_here", "_law_most", "_law_page", "_law_many", "_law_found", "_law_whole", "_law_free", "_law_part", "_law_wide", "_law_is_kept"] ["_law_source_here", "_law_most"] (defScope s_law_few) := ⟨rfl, rfl, rfl, by decide +kernel, rfl, by decide +kernel, by decide +kernel⟩
theorem ok_law_few (T : Txt K mg C aR aA aP) (D : Dn K mg "_law_few" s_law_few) (c_law_parts : Cal P w K mg base 3 "_law_parts" sp_law_parts) (c_law_pick : Cal P w K mg base 2 "_law_pick" sp_pick) (c_law_draw : Cal P w K mg base 1 "_law_draw" sp_draw) : Cal P w K mg base 4 "_law_few" sp_law_few := by
  have nd := sc_law_few.nd
  refine cal_mk D sc_law_few (fun _ _ _ _ _ _ us hl => match us, hl with | [_, _], _ => rfl) (fun vs H Q E h => ?_) (fun fa cdv A outer s H vs Q E hr h => ?_)
  · obtain ⟨a, N, rfl, _⟩ := h
    rfl
  · obtain ⟨a, N, rfl, hs, hN, kk⟩ := h
    refine ⟨_, (pss_cons
    (ps_par (i := 2) (j := 3) rfl nd rfl rfl (by decide) rfl rfl (pa_cons (pe_c c_law_pick hr (by decide) rfl (pa_cons (pv 0) (pa_cons (pe_lst (pa_cons pe_int (pa_cons pe_int (pa_cons pe_int (pa_cons pe_int pa_nil))))) pa_nil))) (pa_cons (pe_op op_add pe_int (pe_c c_law_draw hr (by decide) rfl (pa_cons (pv 0) (pa_cons pe_int pa_nil)))) pa_nil)) (by rfl))
    (pss_cons
    (ps_par3 (i := 4) (j := 5) (l := 6) rfl nd rfl rfl rfl (by decide) (by decide) (by decide) rfl rfl rfl (pa_cons (pe_lst pa_nil) (pa_cons pe_int (pa_cons pe_int pa_nil))) (by rfl))
    (pss_cons
    (ps_for PassesOwn.never rfl (pi_listK (K := K) rfl (pe_c c_law_parts hr (by decide) rfl (pa_cons (pv 0) (pa_cons (pv 2) (pa_cons (pv 3) (pa_cons (pe_c c_law_pick hr (by decide) rfl (pa_cons (pv 0) (pa_cons (pe_lst (pa_cons pe_int (pa_cons pe_int (pa_cons pe_int pa_nil)))) pa_nil))) pa_nil)))))) (pg_name (i := 7) nd rfl (Or.inl rfl))
      (pss_cons
      (ps_set (i := 8) nd rfl (Or.inl rfl) (pe_op op_add (pe_op op_sub (pe_ix ix_tup (pv 7) pe_int (fun _ _ => rfl)) (pe_ix ix_tup (pv 7) pe_int (fun _ _ => rfl))) pe_int))
      (C8.pss_cut
      (ps_set (i := 9) nd rfl (Or.inl rfl) (pe_and (pe_cmpR op_le (pe_op op_mul (pv 5) (pv 8)) (pv 1) (nomark _)) (pe_one (pe_or (pe_cmpR op_eq (pv 8) pe_int (nomark _)) (pe_one (pe_cmpR op_lt (pv 6) pe_int (nomark _)))))))
      (C8.pss_cut
      (ps_expr (pe_bm PySem.F.plainAttrs_list PySem.F.slot_list_append PySem.F.type_list_append mt_append (pv 4) (pa_cons (pe_ifExp (pt_val (pv 9)) (pv 7) (pe_op (r := rCatA K) op_catA (pe_slice sl_tup (pv 7) po_none (po_some pe_int)) (pe_tup (pa_cons (pe_ix ix_tup (pv 7) pe_int (fun _ _ => rfl)) (pa_cons (pe_ix ix_tup (pv 7) pe_int (fun _ _ => rfl)) pa_nil))))) pa_nil)))
      (pss_one
      (ps_par (i := 5) (j := 6) rfl nd rfl rfl (by decide) rfl rfl (pa_cons (pe_op op_mul (pv 5) (pe_ifExp (pt_val (pv 9)) (pv 8) pe_int)) (pa_cons (pe_op op_add (pv 6) (pe_callTy call_int1 (by rfl) T.int (by decide +kernel) (pa_cons (pe_and (pv 9) (pe_one (pe_cmpR op_gt (pv 8) pe_int (nomark _)))) pa_nil))) pa_nil)) (by rfl)))))))
    (pss_one
    (ps_ret (pe_tup (pa_cons (pv 2) (pa_cons (pv 4) pa_nil)))))))), ?_⟩
    refine ⟨_, rfl, by show 4 ≤ sizeLine; decide, fun l hl => ⟨a, l, _, _, rfl, upd_same, (hs.ne hl).symm, by simp, by simp, hs.ex (Evl.Ex.new hl), by omega, fun H1 x hx e1 s1 => ?_⟩⟩
    obtain ⟨pg, rfl, hpg⟩ : ∃ pg, x = V.int pg ∧ (pg = 8 ∨ pg = 16 ∨ pg = 32) := by
      simp only [List.mem_cons, List.not_mem_nil, or_false] at hx
      rcases hx with rfl | rfl | rfl | rfl <;> exact ⟨_, rfl, by decide⟩
    have e01 : ExS a H H1 := (exs (Evl.Ex.new hl)).trans e1
    refine ⟨_, rfl, a, 5, _, rfl, by decide, by decide, s1, by omega, fun H2 k e2 s2 hk => ⟨_, _, rfl, rfl, _, _, rfl, ?_⟩⟩
    refine ⟨by show 0 ≤ sizeLine; decide, fun f hf => ⟨_, _, _, rfl, ?_⟩⟩
    have e02 := e01.trans e2
    have hf0 : H f = none := e02.back s2 hf
    have nfa : f ≠ a := (hs.ne hf0).symm
    have e03 := e02.trans (exs (Evl.Ex.new (o := .lst []) hf))
    have s3 := s2.ex (Evl.Ex.new (o := .lst []) hf)
    have hf3 : (upd H2 f (.lst [])) f = some (.lst []) := upd_same
    generalize upd H2 f (.lst []) = H3 at e03 s3 hf3 ⊢
    refine ⟨_, rfl, _, rfl, _, rfl, _, rfl, by show 3 ≤ sizeLine; decide, fun l2 hl2 => ⟨a, l2, _, _, rfl, upd_same, (s3.ne hl2).symm, by simp, by simp, s3.ex (Evl.Ex.new hl2), by omega, fun H4 x hx e4 s4 => ?_⟩⟩
    obtain ⟨sp, rfl, hsp1, hsp2⟩ : ∃ sp, x = V.int sp ∧ 2 ≤ sp ∧ sp ≤ 9 := by
      simp only [List.mem_cons, List.not_mem_nil, or_false] at hx
      rcases hx with rfl | rfl | rfl <;> exact ⟨_, rfl, by decide, by decide⟩
    have e34 := (exs (Evl.Ex.new (o := .lst [V.int 2, V.int 4, V.int 9]) hl2)).trans e4
    have hf4 := e34 _ _ nfa hf3
    have e04 := e03.trans e34
    refine ⟨a, pg, k + 1, sp, _, by show [V.ref a, V.int pg, V.int (1 + (k : Int)), V.int sp] = _; rw [show (1 + (k : Int)) = ((k + 1 : Nat) : Int) by omega], by omega, by omega, by omega, by omega, hsp1, hsp2, s4, by omega, fun p H5 ps hp e5 s5 hparts hok hlen hw8 => ?_⟩
    have hf5 := e5 _ _ nfa hf4
    have e05 := e04.trans e5
    have nfp : f ≠ p := ne_of_none hf4 hp
    have hp0 : H p = none := e04.back s4 hp
    have npa : p ≠ a := (hs.ne hp0).symm
    obtain ⟨xs, hxs, hpd⟩ := hparts
    have hxl := pd_len hpd
    refine ⟨p, rfl, ⟨_, SqL.of hxs⟩, ?_⟩
    refine for_it (walk_list (xs := xs)) (fun i σ H' => ∃ (wh fr : Int) (ps' : List Part) (v7 v8 v9 : Option V), σ = [some (.ref a), some (.int 60), some (.int pg), some (.int (1 + (k : Int))), some (.ref f), some (.int wh), some (.int fr), v7, v8, v9] ∧ wh = ((wides (zsP ps') : Nat) : Int) ∧ ExS a H H' ∧ Src (N + 200) H' a ∧ H' p = some (.lst xs) ∧ Mo H5 H' ∧ PartsV H' f ps' ∧ Paired Sh (ps.take i) ps' ∧ wides (zsP ps') ≤ 60) ⟨1, 0, [], _, _, _, rfl, rfl, e05, s5.weak (by omega), hxs, Mo.refl _, ⟨[], hf5, .nil⟩, by rw [List.take_zero]; exact .nil, by decide⟩ (fun i σ H' _ q => ?_) ?_ ?_
    · obtain ⟨_, _, _, _, _, _, _, _, _, _, h, _⟩ := q
      exact SqL.of h
    · rintro i x σ H6 H7 hi ⟨wh, fr, ps', v7, v8, v9, rfl, rfl, e6, s6, hx6, m6, ⟨ys, hys, hpy⟩, hsh, hwd⟩ ⟨rfl, hx⟩
      obtain ⟨q, hq, b, rfl, hb⟩ := pd_get hpd hx
      have hb6 := m6 _ _ hb trivial
      have hqm := List.mem_of_getElem? hq
      have hqo := hok.all q hqm
      have hmid := hqo.mid
      have hwide := hqo.wide
      have hyl := pd_len hpy
      have hyl2 := pd_len hsh
      rw [List.length_take] at hyl2
      refine ⟨_, rfl, b, _, _, _, rfl, rfl, SqT.of hb6, rfl, _, rfl, b, _, _, _, rfl, rfl, SqT.of hb6, rfl, _, _, rfl, rfl, _, _, rfl, rfl, ?_⟩
      refine ⟨fun σ' H' => ∃ kp : Bool, σ' = [some (.ref a), some (.int 60), some (.int pg), some (.int (1 + (k : Int))), some (.ref f), some (.int ((wides (zsP ps') : Nat) : Int)), some (.int fr), some (.ref b), some (.int (q.most - q.least + 1)), some (.bl kp)] ∧ H' = H7 ∧ (kp = true → ((wides (zsP ps') : Nat) : Int) * (q.most - q.least + 1) ≤ 60), ?_, ?_⟩
      · refine ⟨_, rfl, _, rfl, _, _, rfl, rfl, .inl ⟨by omega, by omega⟩, _, rfl, _, _, rfl, rfl, _, rfl, ite2 (fun h0 => ?_) (fun h0 => ?_)⟩
        · have h0' := of_decide_eq_true h0
          refine ⟨_, rfl, rfl, _, rfl, ite2 (fun h1 => ?_) (fun h1 => ?_)⟩
          · exact ⟨true, rfl, rfl, fun _ => h0'⟩
          · exact ⟨_, rfl, _, _, rfl, rfl, _, rfl, rfl, fun _ => h0'⟩
        · exact ⟨false, rfl, rfl, fun q => (nomatch q)⟩
      rintro σ' H8 ⟨kp, rfl, rfl, hkp⟩
      have hzs : ∀ q' : Part, wides (zsP (ps' ++ [q'])) = wides (zsP ps') * (q'.most + 1 - q'.least).toNat := fun q' => by rw [zsP_snoc, wides_snoc]
      refine ⟨fun σ' H' => ∃ q' : Part, σ' = [some (.ref a), some (.int 60), some (.int pg), some (.int (1 + (k : Int))), some (.ref f), some (.int ((wides (zsP ps') : Nat) : Int)), some (.int fr), some (.ref b), some (.int (q.most - q.least + 1)), some (.bl kp)] ∧ (kp = true → q' = q) ∧ (kp = false → q' = { q with most := q.least }) ∧ ExS a H H' ∧ Src (N + 200) H' a ∧ H' p = some (.lst xs) ∧ Mo H5 H' ∧ PartsV H' f (ps' ++ [q']), ?_, ?_⟩
      · refine ⟨_, rfl, .inl ⟨rfl, _, SqL.of hys⟩, _, rfl, kp, rfl, ite2 (fun h0 => ?_) (fun h0 => ?_)⟩
        · refine ⟨_, rfl, f, ys, _, rfl, rfl, hys, by rw [sizeLine_eq]; omega, q, rfl, fun _ => rfl, fun z => absurd (h0.symm.trans z) (by decide), e6.mut hf0, ?_, ?_, m6.trans (mo_lst hys), ys ++ [.ref b], upd_same, ?_⟩
          · obtain ⟨x1, x2, x3, h, r⟩ := s6
            exact ⟨x1, x2, x3, by rw [upd_ne (Ne.symm nfa)]; exact h, r⟩
          · rw [upd_ne (Ne.symm nfp)]
            exact hx6
          · exact pd_mono (pd_snoc hpy ⟨b, rfl, hb6⟩) fun _ _ h => h.mono (mo_lst hys)
        · refine ⟨_, rfl, 4, rfl, b, _, rfl, SqT.of hb6, ?_, fun t1 ht1 => ?_⟩
          · rintro ⟨_, z⟩
            have z' : (4 : Nat) = 6 := z
            omega
          rw [cut4]
          have e8 := Evl.Ex.new (o := .tup [.str q.word, .str q.rights, .int q.align, .int q.least]) ht1
          have ht8 : (upd H8 t1 (.tup [.str q.word, .str q.rights, .int q.align, .int q.least])) t1 = some (.tup [.str q.word, .str q.rights, .int q.align, .int q.least]) := upd_same
          generalize upd H8 t1 (.tup [.str q.word, .str q.rights, .int q.align, .int q.least]) = H9 at e8 ht8 ⊢
          have hb9 := e8 _ _ hb6
          refine ⟨_, rfl, b, _, _, _, rfl, rfl, SqT.of hb9, rfl, _, rfl, b, _, _, _, rfl, rfl, SqT.of hb9, rfl, by show 2 ≤ sizeLine; decide, fun t2 ht2 => ?_⟩
          have e9 := Evl.Ex.new (o := .tup [.int q.least, .bl q.zeros]) ht2
          have ht9 : (upd H9 t2 (.tup [.int q.least, .bl q.zeros])) t2 = some (.tup [.int q.least, .bl q.zeros]) := upd_same
          have ht9' := e9 _ _ ht8
          generalize upd H9 t2 (.tup [.int q.least, .bl q.zeros]) = H10 at e9 ht9 ht9' ⊢
          refine ⟨t1, t2, _, _, rfl, rfl, SqT.of ht9', SqT.of ht9, by show 6 ≤ sizeLine; decide, fun z => (nomatch z), fun _ z => (nomatch z), fun _ _ t3 ht3 => ?_⟩
          have e10 := Evl.Ex.new (o := .tup (Part.vals { q with most := q.least })) ht3
          have e8' := (e8.trans e9).trans e10
          have ht10 : (upd H10 t3 (.tup (Part.vals { q with most := q.least }))) t3 = some (.tup (Part.vals { q with most := q.least })) := upd_same
          have hgo : (upd H10 t3 (.tup ([V.str q.word, V.str q.rights, V.int q.align, V.int q.least] ++ [V.int q.least, V.bl q.zeros]))) = upd H10 t3 (.tup (Part.vals { q with most := q.least })) := rfl
          rw [hgo]
          generalize upd H10 t3 (.tup (Part.vals { q with most := q.least })) = H11 at e8' ht10 ⊢
          have hys11 := e8' _ _ hys
          refine ⟨f, ys, _, rfl, rfl, hys11, by rw [sizeLine_eq]; omega, { q with most := q.least }, rfl, fun z => absurd z h0, fun _ => rfl, (e6.trans (exs e8')).mut hf0, ?_, ?_, (m6.trans (mo_ex e8')).trans (mo_lst hys11), ys ++ [.ref t3], upd_same, ?_⟩
          · obtain ⟨x1, x2, x3, h, r⟩ := s6.ex e8'
            exact ⟨x1, x2, x3, by rw [upd_ne (Ne.symm nfa)]; exact h, r⟩
          · rw [upd_ne (Ne.symm nfp)]
            exact e8' _ _ hx6
          · exact pd_mono (pd_snoc (pd_mono hpy fun _ _ h => h.mono (mo_ex e8')) ⟨t3, rfl, ht10⟩) fun _ _ h => h.mono (mo_lst hys11)
      rintro σ' H9 ⟨q', rfl, hq1, hq2, e9, s9, hx9, m9, hp9⟩
      have hsh' : Sh q q' → Paired Sh (ps.take (i + 1)) (ps' ++ [q']) := fun h => by
        rw [List.take_add_one, hq]
        exact pd_snoc hsh h
      have hwt : (q.most + 1 - q.least).toNat = (q.most - q.least + 1).toNat := by congr 1; omega
      cases kp with
      | true =>
        have := hq1 rfl
        subst this
        have hmul := hkp rfl
        have ew : ((wides (zsP (ps' ++ [q'])) : Nat) : Int) = ((wides (zsP ps') : Nat) : Int) * (q'.most - q'.least + 1) := by
          rw [hzs, hwt, Int.natCast_mul, Int.toNat_of_nonneg (by omega)]
        refine ⟨_, rfl, _, rfl, true, rfl, iteT_ rfl ⟨_, rfl, _, _, rfl, rfl, .inl ⟨by omega, by omega⟩, _, rfl, _, rfl, true, rfl, iteT_ rfl ⟨_, rfl, _, _, rfl, rfl, .inr ⟨_, rfl, _, _, rfl, rfl, _, _, rfl, ?_⟩⟩⟩⟩
        exact ⟨_, _, ps' ++ [q'], _, _, _, rfl, ew.symm, e9, s9, hx9, m9, hp9, hsh' (.inl rfl), by omega⟩
      | false =>
        have := hq2 rfl
        subst this
        have ew : ((wides (zsP (ps' ++ [{ q with most := q.least }])) : Nat) : Int) = ((wides (zsP ps') : Nat) : Int) * 1 := by
          rw [hzs]
          show ((wides (zsP ps') * (q.least + 1 - q.least).toNat : Nat) : Int) = _
          rw [show (q.least + 1 - q.least).toNat = 1 by omega]
          omega
        refine ⟨_, rfl, _, rfl, false, rfl, iteF_ (by simp) ⟨_, _, rfl, rfl, .inl ⟨by omega, by omega⟩, _, rfl, _, rfl, false, rfl, iteF_ (by simp) (.inr ⟨_, rfl, _, _, rfl, rfl, _, _, rfl, ?_⟩)⟩⟩
        exact ⟨_, _, ps' ++ [{ q with most := q.least }], _, _, _, rfl, ew.symm, e9, s9, hx9, m9, hp9, hsh' (.inr rfl), by omega⟩
    · rintro σ H6 ⟨wh, fr, ps', v7, v8, v9, rfl, rfl, e6, s6, hx6, m6, hp6, hsh, hwd⟩
      rw [hxl, List.take_length] at hsh
      have hl' := pd_len hsh
      refine ⟨_, rfl, _, rfl, by show 2 ≤ sizeLine; decide, fun t ht => ?_⟩
      have et := Evl.Ex.new (o := .tup [.int pg, .ref f]) ht
      refine kk t f _ pg ps' hf0 (e6.trans (exs et)) (s6.ex et) upd_same (hp6.mono et) hpg (sh_ok hsh hok) (by omega) (by omega) (fun q' hq' => ?_) hwd
      have hw : q'.word ∈ ps.map Part.word := by
        rw [← sh_map (g := Part.word) (fun _ => rfl) hsh]
        exact List.mem_map.mpr ⟨q', hq', rfl⟩
      obtain ⟨q, hq, e⟩ := List.mem_map.mp hw
      rw [← e]
      exact hw8 q hq
end
end Lk
namespace Lk
open PySem PySem.Spec PyProof.Rows L2
open Evl (Ex RetV RetL)
theorem wordOk_of : ∀ x ∈ W9, WordOk x := by
  have h : ∀ x ∈ W9, 1 ≤ x.length ∧ x.length ≤ 8 ∧ x.cps.toList.all (fun c => decide (c ∈ ("abcdefghijklmnopqrstuvwxyz" : Str).cps.toList)) = true := by decide +kernel
  intro x hx
  obtain ⟨h1, h2, h3⟩ := h x hx
  refine ⟨h1, h2, fun i c hc => ?_⟩
  have hm : c ∈ x.cps.toList := by
    rw [← Array.getElem?_toList] at hc
    exact List.mem_of_getElem? hc
  exact of_decide_eq_true (List.all_eq_true.mp h3 c hm)
theorem w8_w9 : ∀ x ∈ W8, x ∈ W9 := by decide +kernel
theorem inV_strs {x : Str} {ws : List Str} : inV (.str x) (ws.map V.str) = decide (x ∈ ws) := by
  unfold inV
  rw [List.any_map]
  induction ws with
  | nil => rfl
  | cons y ys ih =>
    rw [List.any_cons, ih]
    have e : (eqV (.str y) (.str x)) = decide (x = y) := by
      by_cases q : x = y
      · subst q
        simp [eqV]
      · have q' : ¬ y = x := fun z => q z.symm
        simp [eqV, q, q']
    show (eqV (.str y) (.str x) || _) = _
    rw [e]
    by_cases q : x = y <;> simp [q]
theorem flat_strs (ws : List Str) : (ws.map V.str).all flatV = true := by
  rw [List.all_map]
  exact List.all_eq_true.mpr fun _ _ => rfl
section
variable {P : Program} {w : World} {K : PySem.W.Frag} {mg : Str → Option Value} {base : Heap} {C aR aA aP : Addr}
/-! ### _law_source -/
def sp_law_source (K : PySem.W.Frag) : Sp := fun vs H Q _ => ∃ (s : Addr) (t : Nat) (ns : List Int), vs = [.ref s, .int (t : Int)] ∧ SqL K H s (ns.map V.int) ∧ ns.length ≤ 100000 ∧ t ≤ 100 ∧ ∀ a H', H a = none → Ex H H' → Src 0 H' a → Q (.ref a) H'
theorem sc_law_source : FnScope ["_law_script", "_law_turn", "_law_cell", "_law_seed", "_law_other"] ["_law_script", "_law_turn"] (defScope s_law_source) := ⟨rfl, rfl, rfl, by decide +kernel, rfl, by decide +kernel, by decide +kernel⟩
theorem ok_law_source (T : Txt K mg C aR aA aP) (D : Dn K mg "_law_source" s_law_source) : Cal P w K mg base 1 "_law_source" (sp_law_source K) := by
  have nd := sc_law_source.nd
  refine cal_mk D sc_law_source (fun _ _ _ _ _ _ us hl => match us, hl with | [_, _], _ => rfl) (fun vs H Q E h => ?_) (fun fa cdv A outer s H vs Q E hr h => ?_)
  · obtain ⟨s, t, ns, rfl, _⟩ := h
    rfl
  · obtain ⟨s, t, ns, rfl, hs, hn, ht, kk⟩ := h
    refine ⟨_, (C8.pss_cut
    (ps_set (i := 2) nd rfl (Or.inl rfl) (pe_ifExp (pt_cmpR op_lt (pv 1) (pe_callB call_len_seq (by rfl) T.len PySem.boot_len (pa_cons (pv 0) pa_nil)) (nomark _)) (pe_ix ix_list (pv 0) (pv 1) (fun _ _ => rfl)) (pe_op op_add (pe_op op_add (pe_op op_mod (pe_callTy call_int1 (by rfl) T.int (by decide +kernel) (pa_cons (pe_callB (cr_sum rfl) (by rfl) T.sum (by decide +kernel) (pa_cons (pe_slice sl_list (pv 0) po_none (po_some pe_int)) pa_nil)) pa_nil)) pe_int) (pe_op op_mul pe_int (pv 1))) pe_int)))
    (pss_cons
    (ps_set (i := 3) nd rfl (Or.inl rfl) (pe_op op_add (pe_op op_mul pe_int (pv 1)) pe_int))
    (pss_cons
    (ps_for PassesOwn.never rfl (pi_listK (K := K) rfl (pv 0)) (pg_name (i := 4) nd rfl (Or.inl rfl))
      (pss_one
      (ps_set (i := 3) nd rfl (Or.inl rfl) (pe_op op_mod (pe_callTy call_int1 (by rfl) T.int (by decide +kernel) (pa_cons (pe_op op_add (pe_op op_mul (pv 3) pe_int) (pv 4)) pa_nil)) pe_int))))
    (pss_one
    (ps_ret (pe_lst (pa_cons (pe_ifExp (pt_cmpR op_ge (pv 2) (pe_op op_pow pe_int pe_int) (nomark _)) (pe_op op_fdiv (pv 2) pe_int) pe_int) (pa_cons (pe_op op_mod (pe_callTy call_int1 (by rfl) T.int (by decide +kernel) (pa_cons (pe_op op_add (pv 3) (pe_op op_mul pe_int (pv 2))) pa_nil)) pe_int) (pa_cons pe_int pa_nil))))))))), ?_⟩
    refine ⟨fun σ' H' => ∃ c : Int, σ' = [some (.ref s), some (.int (t : Int)), some (.int c), none, none] ∧ Ex H H', ?_, ?_⟩
    · refine ⟨_, rfl, _, rfl, s, _, rfl, .inl hs, _, _, rfl, rfl, _, rfl, ite2 (fun h0 => ?_) (fun h0 => ?_)⟩
      · have h0' := of_decide_eq_true h0
        rw [List.length_map] at h0'
        exact ⟨_, rfl, _, rfl, s, _, _, _, rfl, rfl, hs, atI_nat (ints_at (by omega)), _, rfl, Evl.Ex.refl _⟩
      · refine ⟨_, rfl, 1, rfl, s, _, rfl, hs, fun p hp => ?_⟩
        have ec : cutV (ns.map V.int) none (some 1) = (ns.take 1).map V.int := by
          rw [List.map_take]
          unfold cutV
          have e1 : HT.sIx (ns.map V.int).length 0 none = 0 := rfl
          have e2 : HT.sIx (ns.map V.int).length (ns.map V.int).length (some 1) = min 1 (ns.map V.int).length := HT.sIx_nat _ _ 1
          rw [e1, e2, List.drop_zero, Nat.sub_zero]
          by_cases q : 1 ≤ (ns.map V.int).length
          · rw [Nat.min_eq_left q]
          · rw [Nat.min_eq_right (by omega), List.take_of_length_le (Nat.le_refl _), List.take_of_length_le (by omega)]
        rw [ec]
        refine ⟨p, _, rfl, SqL.of upd_same, .inl ⟨_, rfl, _, _, rfl, rfl, by show (0 : Int) < 1000003; decide, ?_⟩⟩
        refine ⟨_, rfl, _, _, rfl, rfl, .inl ⟨by decide, by decide⟩, _, _, rfl, rfl, _, _, rfl, rfl, _, rfl, Evl.Ex.new hp⟩
    rintro σ' H1 ⟨c, rfl, e1⟩
    have hs1 := Evl.ex_l (K := K) e1 hs
    refine ⟨_, rfl, _, _, rfl, rfl, .inl ⟨by decide, by decide⟩, _, _, rfl, rfl, ?_⟩
    refine ⟨_, rfl, s, rfl, ⟨_, hs1⟩, ?_⟩
    refine for_it (walk_list (xs := ns.map V.int)) (fun i σ H' => ∃ (sd : Int) (v4 : Option V), σ = [some (.ref s), some (.int (t : Int)), some (.int c), some (.int sd), v4] ∧ H' = H1) ⟨_, _, rfl, rfl⟩ (fun i σ H' _ q => ?_) ?_ ?_
    · obtain ⟨_, _, _, rfl⟩ := q
      exact hs1
    · rintro i x σ H2 H3 hi ⟨sd, v4, rfl, rfl⟩ ⟨rfl, hx⟩
      rw [List.length_map] at hi
      have hx0 : (ns.map V.int)[i]? = some x := hx
      rw [ints_at hi] at hx0
      cases hx0
      exact ⟨_, rfl, _, _, rfl, rfl, .inr ⟨by decide, by decide⟩, _, rfl, _, _, rfl, rfl, .inl ⟨_, rfl, _, _, rfl, rfl, by show (0 : Int) < 2147483629; decide, _, _, rfl, rfl⟩⟩
    · rintro σ H2 ⟨sd, v4, rfl, rfl⟩
      have fin : ∀ x : Int, 0 ≤ x → ∀ u : Int, ∀ l, H2 l = none → Q (.ref l) (upd H2 l (.lst [.int x, .int (u % 2147483629), .int 0])) := fun x hx u l hl => by
        refine kk l _ (Evl.fresh_back e1 hl) (e1.trans (Evl.Ex.new hl)) ⟨x, _, 0, upd_same, hx, Int.emod_nonneg _ (by decide), Int.emod_lt_of_pos _ (by decide), by decide, by decide⟩
      refine ⟨_, rfl, _, _, rfl, rfl, ⟨by decide, by decide, by decide⟩, _, _, rfl, rfl, _, rfl, ite2 (fun h0 => ?_) (fun h0 => ?_)⟩
      · have h0' : (0 : Int) ≤ c := Int.le_trans (by decide) (of_decide_eq_true h0)
        refine ⟨_, rfl, _, _, rfl, rfl, ⟨by decide, by decide⟩, ?_⟩
        refine ⟨_, rfl, _, rfl, _, _, rfl, rfl, .inl ⟨by decide, by decide⟩, _, _, rfl, rfl, .inl ⟨_, rfl, _, _, rfl, rfl, by show (0 : Int) < 2147483629; decide, by show 3 ≤ sizeLine; decide, fun l hl => ?_⟩⟩
        exact fin _ (Int.ediv_nonneg h0' (by decide)) _ l hl
      · refine ⟨_, rfl, _, rfl, _, _, rfl, rfl, .inl ⟨by decide, by decide⟩, _, _, rfl, rfl, .inl ⟨_, rfl, _, _, rfl, rfl, by show (0 : Int) < 2147483629; decide, by show 3 ≤ sizeLine; decide, fun l hl => ?_⟩⟩
        exact fin _ (by decide) _ l hl
/-! ### is_part -/
def sp_is_part : Sp := fun vs H Q _ => ∃ (v : V) (pg : Int) (m : Addr) (q : Part) (ws : List Str), vs = [v, .int pg, .ref m] ∧ PartV H v q ∧ PtOk pg q ∧ H m = some (.lst (ws.map V.str)) ∧ q.word ∉ ws ∧ RetV (.bl true) H Q
theorem sc_is_part : FnScope ["thing", "page", "met", "word", "rights", "align", "least", "most", "zeros"] ["thing", "page", "met"] (defScope s_is_part) := ⟨rfl, rfl, rfl, by decide +kernel, rfl, by decide +kernel, by decide +kernel⟩
theorem inR : ∀ x ∈ R3, inV (.str x) [V.str "r", V.str "rw", V.str "rx"] = true := by decide +kernel
theorem ok_is_part (T : Txt K mg C aR aA aP) (D : Dn K mg "is_part" s_is_part) (c_is_list : Cal P w K mg base 1 "is_list" sp_is_list) (c_is_word : Cal P w K mg base 1 "is_word" sp_is_word) (c_is_integer : Cal P w K mg base 1 "is_integer" sp_is_integer) (c_is_natural : Cal P w K mg base 2 "is_natural" sp_is_natural) : Cal P w K mg base 3 "is_part" sp_is_part := by
  have nd := sc_is_part.nd
  refine cal_mk D sc_is_part (fun _ _ _ _ _ _ us hl => match us, hl with | [_, _, _], _ => rfl) (fun vs H Q E h => ?_) (fun fa cdv A outer s H vs Q E hr h => ?_)
  · obtain ⟨v, pg, m, q, ws, rfl, _⟩ := h
    rfl
  · obtain ⟨v, pg, m, q, ws, rfl, ⟨b, rfl, hb⟩, ok, hm, hne, kk⟩ := h
    refine ⟨_, (pss_cons
    (ps_if (PW.pt (pw_or (pt_not (pt_val (pe_c c_is_list hr (by decide) rfl (pa_cons (pv 0) pa_nil)))) (pw_or (pt_cmpR op_ne (pe_callB call_len_seq (by rfl) T.len PySem.boot_len (pa_cons (pv 0) pa_nil)) pe_int (nomark _)) (pw_or (pt_not (pt_val (pe_c c_is_word hr (by decide) rfl (pa_cons (pe_ix ix_tup (pv 0) pe_int (fun _ _ => rfl)) pa_nil)))) (pw_or1 (pt_cmpR op_in_seq (pe_ix ix_tup (pv 0) pe_int (fun _ _ => rfl)) (pv 2) (by rfl)))))))
      (pss_one
      (ps_ret pe_bl))
      pss_nil)
    (pss_cons
    (ps_asg (pv 0) (pg_tup rfl (pgs_cons (pg_name (i := 3) nd rfl (Or.inl rfl)) (pgs_cons (pg_name (i := 4) nd rfl (Or.inl rfl)) (pgs_cons (pg_name (i := 5) nd rfl (Or.inl rfl)) (pgs_cons (pg_name (i := 6) nd rfl (Or.inl rfl)) (pgs_cons (pg_name (i := 7) nd rfl (Or.inl rfl)) (pgs_cons (pg_name (i := 8) nd rfl (Or.inl rfl)) pgs_nil))))))))
    (pss_cons
    (ps_if (PW.pt (pw_or (pt_not (pt_val (pe_callB call_isi (by rfl) T.isinstance (by decide +kernel) (pa_cons (pv 4) (pa_cons (pe_bltn (v := .ty "str") (by rfl) T.str (by decide +kernel) rfl) pa_nil))))) (pw_or (pt_cmpR op_notIn_seq (pv 4) (pe_gc rfl T.RIGHTS) (by rfl)) (pw_or1 (pt_not (pt_val (pe_callB call_isi (by rfl) T.isinstance (by decide +kernel) (pa_cons (pv 8) (pa_cons (pe_bltn (v := .ty "bool") (by rfl) T.bool (by decide +kernel) rfl) pa_nil)))))))))
      (pss_one
      (ps_ret pe_bl))
      pss_nil)
    (pss_cons
    (ps_if (PW.pt (pw_or (pt_not (pt_val (pe_c c_is_integer hr (by decide) rfl (pa_cons (pv 5) pa_nil)))) (pw_or (pt_cmpR op_notIn_seq (pv 5) (pe_gc rfl T.ALIGNS) (by rfl)) (pw_or1 (pt_cmpR op_gt (pv 5) (pv 1) (nomark _))))))
      (pss_one
      (ps_ret pe_bl))
      pss_nil)
    (pss_one
    (ps_ret (pe_and (pe_c c_is_natural hr (by decide) rfl (pa_cons (pv 6) pa_nil)) (pe_and (pe_c c_is_natural hr (by decide) rfl (pa_cons (pv 7) pa_nil)) (pe_one (pe_cmpR op_le (pv 6) (pv 7) (nomark _))))))))))), ?_⟩
    refine ⟨_, rfl, b, _, rfl, .inr hb, fun H1 e1 => ⟨true, rfl, iteF_ (by simp) ?_⟩⟩
    have hb1 := e1 _ _ hb
    refine ⟨_, rfl, b, _, rfl, .inr (SqT.of hb1), rfl, _, rfl, iteF_ (by show ¬ ((!decide (V.int 6 = V.int 6)) = true); decide) ?_⟩
    refine ⟨_, rfl, b, _, _, _, rfl, rfl, SqT.of hb1, rfl, q.word, rfl, wordOk_of _ ok.wd, fun H2 e2 => ⟨true, rfl, iteF_ (by simp) ?_⟩⟩
    have hb2 := e2 _ _ hb1
    have hm2 := e2 _ _ (e1 _ _ hm)
    refine ⟨_, rfl, b, _, _, _, rfl, rfl, SqT.of hb2, rfl, _, rfl, m, _, rfl, .inl (SqL.of hm2), rfl, flat_strs ws, _, rfl, ?_⟩
    refine iteF_ ?_ ?_
    · show ¬ (inV (.str q.word) (ws.map V.str)) = true
      rw [inV_strs, decide_eq_false hne]
      simp
    refine ⟨_, rfl, b, _, rfl, SqT.of hb2, rfl, _, _, rfl, _, _, rfl, _, _, rfl, _, _, rfl, _, _, rfl, _, _, rfl, rfl, ?_⟩
    refine ⟨_, rfl, ?_⟩
    dsimp only [tNil, tCons, tC]
    refine ⟨_, _, _, _, true, rfl, .ty _, .base (.str _), kit_ty (by decide +kernel), true, rfl, iteF_ (by simp) ?_⟩
    refine ⟨_, rfl, aR, _, rfl, .inr (T.tR _), rfl, by decide, _, rfl, iteF_ ?_ ?_⟩
    · show ¬ (!inV (.str q.rights) [V.str "r", V.str "rw", V.str "rx"]) = true
      rw [inR _ ok.rt]
      simp
    refine ⟨_, rfl, ?_⟩
    dsimp only [tNil, tCons, tC]
    refine ⟨_, _, _, _, true, rfl, .ty _, .base (.bl _), kit_ty (by decide +kernel), true, rfl, iteF_ (by simp) ?_⟩
    refine ⟨_, rfl, q.align, rfl, fun H3 e3 => ⟨true, rfl, iteF_ (by simp) ?_⟩⟩
    refine ⟨_, rfl, aA, _, rfl, .inr (T.tA _), rfl, by decide, _, rfl, iteF_ ?_ ?_⟩
    · show ¬ (!inV (.int q.align) [V.int 1, V.int 2, V.int 4, V.int 8, V.int 16, V.int 32, V.int 64]) = true
      rcases ok.al with h | h | h | h | h <;> (rw [h]; decide)
    have hmid := ok.mid
    have hlo := ok.lo
    refine ⟨_, rfl, _, rfl, _, _, rfl, rfl, _, rfl, iteF_ ?_ ?_⟩
    · have := ok.alp
      simp
      omega
    refine ⟨_, rfl, q.least, rfl, hlo, fun H4 e4 => ⟨true, rfl, iteT_ rfl ?_⟩⟩
    refine ⟨_, rfl, q.most, rfl, by omega, fun H5 e5 => ⟨true, rfl, iteT_ rfl ?_⟩⟩
    refine ⟨_, rfl, _, rfl, _, _, rfl, rfl, ?_⟩
    show Q (.bl (decide (q.least ≤ q.most))) H5
    rw [decide_eq_true hmid]
    exact kk _ ((((e1.trans e2).trans e3).trans e4).trans e5)
end
end Lk
namespace Lk
open PySem PySem.Spec PyProof.Rows L2
open Evl (Ex RetV RetL)
/-- all but what stands at o -/
def ahV (xs : List V) : Nat → V
  | 0 => .non
  | j + 1 => xs.getD j .non
section
variable {P : Program} {w : World} {K : PySem.W.Frag} {mg : Str → Option Value} {base : Heap} {C aR aA aP : Addr}
theorem fn_mk {x q : Str} {st : Stmt} {f : Addr} {fd : FuncData} {N ps : List Str} {k : Nat} {sp : Sp} (F : FunD K x q (defArgs st) (defBody st) (defScope st) [] [] f fd) (S : FnScope N ps (defScope st))
    (len : ∀ vs H Q E, sp vs H Q E → vs.length = ps.length)
    (hbody : ∀ (cdv : Value) (A : Around) (outer : List Env) (s : Shared) (H : Hp) (vs : List V) (Q : VK) (E : XK), Room k (A.deeper (envOfC q (defScope st) s.heap.objs.size f cdv)) → sp vs H Q E →
      ∃ t, PSs (cxOf CX0 P w K mg base N q (defScope st) f cdv A outer s H E).nox (defBody st) t ∧ t { nx := fun _ H' => Q .non H', rt := Q } (start N vs) H) : FnOk P w K mg base CX0 (k + 1) f fd ps sp :=
  F.ok S len fun cdv A outer s H vs Q E hr hsp => let ⟨t, ht, q⟩ := hbody cdv A outer s H vs Q E hr hsp; ⟨t, ht.nox, q⟩
/-! ### Plan.__init__ -/
def sp_init (C : Addr) : Sp := fun vs H Q _ => ∃ (o dx : Addr) (pg : Int) (l : Addr) (ps : List Part), vs = [.ref o, .int pg, .ref l] ∧ H o = some (.ins C dx []) ∧ PartsV H l ps ∧ (pg = 8 ∨ pg = 16 ∨ pg = 32) ∧ PsOk pg ps ∧ 1 ≤ ps.length ∧ ps.length ≤ 10 ∧
  ∀ H', (∀ p u, p ≠ o → H p = some u → H' p = some u) → PlanV C H' (.ref o) pg ps → Q .non H'
theorem sc_init : FnScope ["self", "page", "parts", "met", "ahead", "index", "part"] ["self", "page", "parts"] (defScope s_Plan) := ⟨rfl, rfl, rfl, by decide +kernel, rfl, by decide +kernel, by decide +kernel⟩
theorem ok_init {f : Addr} {fd : FuncData} (T : Txt K mg C aR aA aP) (F : FunD K "__init__" "Plan.__init__" (defArgs s_Plan) (defBody s_Plan) (defScope s_Plan) [] [] f fd) (c_is_list : Cal P w K mg base 1 "is_list" sp_is_list) (c_is_integer : Cal P w K mg base 1 "is_integer" sp_is_integer) (c_is_part : Cal P w K mg base 3 "is_part" sp_is_part) :
    FnOk P w K mg base CX0 4 f fd ["self", "page", "parts"] (sp_init C) := by
  have nd := sc_init.nd
  refine fn_mk F sc_init (fun vs H Q E h => ?_) (fun cdv A outer s H vs Q E hr h => ?_)
  · obtain ⟨o, dx, pg, l, ps, rfl, _⟩ := h
    rfl
  · obtain ⟨o, dx, pg, l, ps, rfl, ho, hP, hpg, ok, hl1, hl2, kk⟩ := h
    refine ⟨_, (pss_cons
    (ps_if (PW.pt (pw_or (pt_not (pt_val (pe_c c_is_integer hr (by decide) rfl (pa_cons (pv 1) pa_nil)))) (pw_or1 (pt_cmpR op_notIn_seq (pv 1) (pe_gc rfl T.PAGES) (by rfl)))))
      (pss_one
      ps_never)
      pss_nil)
    (pss_cons
    (ps_if (PW.pt (pw_or (pt_not (pt_val (pe_c c_is_list hr (by decide) rfl (pa_cons (pv 2) pa_nil)))) (pw_or1 (pt_cmpR op_eq (pe_callB call_len_seq (by rfl) T.len PySem.boot_len (pa_cons (pv 2) pa_nil)) pe_int (nomark _)))))
      (pss_one
      ps_never)
      pss_nil)
    (pss_cons
    (ps_par (i := 3) (j := 4) rfl nd rfl rfl (by decide) rfl rfl (pa_cons (pe_lst pa_nil) (pa_cons pe_non pa_nil)) (by rfl))
    (pss_cons
    (ps_for PassesOwn.never rfl (pi_enum (by rfl) T.enumerate (pa_cons (pv 2) pa_nil)) (pg_tup rfl (pgs_cons (pg_name (i := 5) nd rfl (Or.inl rfl)) (pgs_cons (pg_name (i := 6) nd rfl (Or.inl rfl)) pgs_nil)))
      (pss_cons
      (ps_if (pt_not (pt_val (pe_c c_is_part hr (by decide) rfl (pa_cons (pv 6) (pa_cons (pv 1) (pa_cons (pv 3) pa_nil))))))
        (pss_one
        ps_never)
        pss_nil)
      (C8.pss_cut
      (ps_if (PW.pt (pw_and (pt_cmpR op_notN (pv 4) pe_non (nomark _)) (pw_and (pt_val (pe_ix ix_tup (pv 4) pe_int (fun _ _ => rfl))) (pw_and (pt_not (pt_val (pe_ix ix_tup (pv 6) pe_int (fun _ _ => rfl)))) (pw_and1 (pt_cmpR op_eq (pe_ix ix_tup (pv 4) pe_int (fun _ _ => rfl)) (pe_ix ix_tup (pv 6) pe_int (fun _ _ => rfl)) (nomark _)))))))
        (pss_one
        ps_never)
        pss_nil)
      (pss_cons
      (ps_expr (pe_bm PySem.F.plainAttrs_list PySem.F.slot_list_append PySem.F.type_list_append mt_append (pv 3) (pa_cons (pe_ix ix_tup (pv 6) pe_int (fun _ _ => rfl)) pa_nil)))
      (pss_one
      (ps_set (i := 4) nd rfl (Or.inl rfl) (pv 6)))))))
    (pss_cons
    (ps_fld (pv 0) (pv 1) rfl)
    (pss_one
    (ps_fld (pv 0) (pe_callTy call_tuple_of (by rfl) T.tuple (by decide +kernel) (pa_cons (pe_lc (own := [("part", 6)]) rfl nd (pi_listK (K := K) rfl (pv 2)) (blkOk_by (N := ["self", "page", "parts", "met", "ahead", "index", "part"]) (sc := defScope s_Plan) (by decide +kernel)) (fun _ _ _ _ _ => (pg_name (i := 6) nd rfl (Or.inl rfl))) (fun _ _ _ _ _ => pts_nil) (fun _ _ _ _ _ => (pe_callTy (r := rTupT K) call_tupT (by rfl) T.tuple (by decide +kernel) (pa_cons (pv 6) pa_nil)))) pa_nil)) rfl))))))), ?_⟩
    obtain ⟨xs, hl, hpd⟩ := hP
    have hxl := pd_len hpd
    refine ⟨_, rfl, pg, rfl, fun H1 e1 => ⟨true, rfl, iteF_ (by simp) ?_⟩⟩
    refine ⟨_, rfl, aP, _, rfl, .inr (T.tP _), rfl, by decide, _, rfl, iteF_ ?_ ?_⟩
    · show ¬ (!inV (.int pg) [V.int 8, V.int 16, V.int 32, V.int 64]) = true
      rcases hpg with h | h | h <;> (rw [h]; decide)
    refine ⟨_, rfl, l, _, rfl, .inl (e1 _ _ hl), fun H2 e2 => ⟨true, rfl, iteF_ (by simp) ?_⟩⟩
    have e12 := e1.trans e2
    have hl_2 := e12 _ _ hl
    refine ⟨_, rfl, l, _, rfl, .inl (SqL.of hl_2), rfl, _, rfl, iteF_ ?_ ?_⟩
    · show ¬ (decide (V.int (xs.length : Int) = V.int 0)) = true
      rw [decide_eq_false fun z => by injection z with z; omega]
      simp
    refine ⟨by show 0 ≤ sizeLine; decide, fun m hm => ⟨_, _, rfl, ?_⟩⟩
    have hm0 : H m = none := Evl.fresh_back e12 hm
    have e3 : Ex H (upd H2 m (.lst [])) := e12.trans (Evl.Ex.new hm)
    refine ⟨_, rfl, l, _, rfl, SqL.of (e3 _ _ hl), ?_⟩
    refine for_it (walk_enum (xs := xs)) (fun i σ H' => ∃ v5 v6 : Option V, σ = [some (.ref o), some (.int pg), some (.ref l), some (.ref m), some (ahV xs i), v5, v6] ∧ Ex H H' ∧ H' m = some (.lst ((ps.take i).map fun p => V.str p.word))) ⟨_, _, rfl, e3, upd_same⟩ (fun i σ H' _ q => ?_) ?_ ?_
    · obtain ⟨_, _, _, e, _⟩ := q
      exact SqL.of (e _ _ hl)
    · rintro i x σ H4 H5 hi ⟨v5, v6, rfl, e4, hm4⟩ ⟨T', x', y', rfl, hT', rfl, ex, ey⟩
      cases ex
      have ey0 : xs[i]? = some y' := ey
      obtain ⟨q, hq, b, rfl, hb⟩ := pd_get hpd ey0
      have hqm := List.mem_of_getElem? hq
      have e5 := e4.trans (Evl.Ex.new (o := .tup [.int (i : Int), .ref b]) hT')
      have hm5 := Evl.Ex.new (o := .tup [.int (i : Int), .ref b]) hT' _ _ hm4
      have hTT : (upd H4 T' (.tup [.int (i : Int), .ref b])) T' = some (.tup [.int (i : Int), .ref b]) := upd_same
      generalize upd H4 T' (.tup [.int (i : Int), .ref b]) = H5 at e5 hm5 hTT ⊢
      have hnw : q.word ∉ (ps.take i).map Part.word := fun z => by
        have hnd := ok.nd
        have hsp : ps = ps.take i ++ q :: ps.drop (i + 1) := by
          have := List.getElem?_eq_some_iff.mp hq
          obtain ⟨h1, h2⟩ := this
          rw [← h2, ← List.drop_eq_getElem_cons h1, List.take_append_drop]
        rw [hsp, List.map_append, List.map_cons] at hnd
        exact (List.nodup_append.mp hnd).2.2 _ z _ (List.mem_cons_self ..) rfl
      refine ⟨T', _, rfl, SqT.of hTT, rfl, _, _, rfl, _, _, rfl, rfl, ?_⟩
      refine ⟨_, rfl, _, rfl, _, rfl, .ref b, pg, m, q, (ps.take i).map Part.word, rfl, ⟨b, rfl, e5 _ _ hb⟩, ok.all q hqm, by rw [hm5, List.map_map]; rfl, hnw, fun H6 e6 => ⟨true, rfl, iteF_ (by simp) ?_⟩⟩
      have e56 := e5.trans e6
      have hb6 := e56 _ _ hb
      refine ⟨fun σ' H' => σ' = [some (.ref o), some (.int pg), some (.ref l), some (.ref m), some (ahV xs i), some (.int (i : Int)), some (.ref b)] ∧ H' = H6, ?_, ?_⟩
      · cases i with
        | zero => exact ⟨_, rfl, rfl, _, rfl, iteF_ (by show ¬ (!decide (V.non = V.non)) = true; decide) ⟨rfl, rfl⟩⟩
        | succ j =>
          have hj : j < xs.length := by omega
          obtain ⟨x0, hx0⟩ : ∃ x0, xs[j]? = some x0 := ⟨_, List.getElem?_eq_getElem hj⟩
          obtain ⟨r, hr', br, rfl, hbr⟩ := pd_get hpd hx0
          have eah : ahV xs (j + 1) = .ref br := by
            show xs.getD j .non = _
            rw [List.getD_eq_getElem?_getD, hx0]
            rfl
          rw [eah]
          have hbr6 := e56 _ _ hbr
          refine ⟨_, rfl, rfl, _, rfl, iteT_ (by simp) ?_⟩
          refine ⟨_, rfl, br, _, _, _, rfl, rfl, SqT.of hbr6, rfl, _, rfl, ite2 (fun h0 => ?_) (fun h0 => ⟨rfl, rfl⟩)⟩
          refine ⟨_, rfl, b, _, _, _, rfl, rfl, SqT.of hb6, rfl, _, rfl, ite2 (fun h1 => ?_) (fun h1 => ⟨rfl, rfl⟩)⟩
          refine ⟨_, rfl, br, _, _, _, rfl, rfl, SqT.of hbr6, rfl, _, rfl, b, _, _, _, rfl, rfl, SqT.of hb6, rfl, rfl, _, rfl, iteF_ (fun h2 => ?_) ⟨rfl, rfl⟩⟩
          have h2' : r.rights = q.rights := by
            have := of_decide_eq_true h2
            injection this
          have hsp : ps = ps.take j ++ r :: q :: ps.drop (j + 2) := by
            obtain ⟨a1, a2⟩ := List.getElem?_eq_some_iff.mp hr'
            obtain ⟨b1, b2⟩ := List.getElem?_eq_some_iff.mp hq
            rw [← a2, ← b2, ← List.drop_eq_getElem_cons b1, ← List.drop_eq_getElem_cons a1, List.take_append_drop]
          have hz := ok.ch _ _ _ _ hsp h0 h2'.symm
          rw [hz] at h1
          simp at h1
      rintro σ' H7 ⟨rfl, rfl⟩
      have hm7 := e6 _ _ hm5
      refine ⟨_, rfl, .inl ⟨rfl, _, SqL.of hm7⟩, _, rfl, b, _, _, _, rfl, rfl, SqT.of hb6, rfl, m, _, _, rfl, rfl, hm7, by rw [List.length_map, List.length_take, sizeLine_eq]; omega, ?_⟩
      refine ⟨_, rfl, some (.int (i : Int)), some (.ref b), ?_, e56.mut hm0, ?_⟩
      · have eah : ahV xs (i + 1) = .ref b := by
          show xs.getD i .non = _
          rw [List.getD_eq_getElem?_getD, ey0]
          rfl
        rw [eah]
        rfl
      · rw [upd_same, take_snoc hq]
    · rintro σ H4 ⟨v5, v6, rfl, e4, hm4⟩
      have ho4 := e4 _ _ ho
      refine ⟨_, rfl, _, rfl, o, C, dx, _, rfl, ho4, T.cl, T.nP, by decide, ?_⟩
      have e5 : ExS o H (upd H4 o (.ins C dx (putF "kept_page" (.int pg) []))) := (exs e4).set
      have ho5 : (upd H4 o (.ins C dx (putF "kept_page" (.int pg) []))) o = some (.ins C dx (putF "kept_page" (.int pg) [])) := upd_same
      generalize upd H4 o (.ins C dx (putF "kept_page" (.int pg) [])) = H5 at e5 ho5 ⊢
      have nlo : l ≠ o := fun z => by rw [z, ho] at hl; cases hl
      have hl5 := e5 _ _ nlo hl
      have nbo : ∀ {v q}, PartV H v q → ∀ {H'}, ExS o H H' → PartV H' v q := fun h H' e => by
        obtain ⟨b, rfl, hb⟩ := h
        refine ⟨b, rfl, e _ _ (fun z => ?_) hb⟩
        rw [z, ho] at hb
        cases hb
      refine ⟨_, rfl, l, rfl, ⟨xs, SqL.of hl5⟩, fun p hp => ?_⟩
      refine lc_pure (walk_list (xs := xs)) hp (by rw [sizeLine_eq]; omega) (fun i acc _ => acc = xs.take i) (fun _ _ _ _ _ q => q) (fun H' e => SqL.of (e _ _ hl5)) rfl ?_ ?_
      · rintro i x H6 H7 acc Kt K0 hi e6 ha ⟨rfl, hx⟩ k1 _
        have hx0 : xs[i]? = some x := hx
        obtain ⟨q, hq, hv⟩ := pd_get hpd hx0
        obtain ⟨b, rfl, hb⟩ := nbo hv (e5.trans (exs e6))
        refine ⟨rfl, yes_ ⟨_, rfl, b, _, rfl, SqT.of hb, k1 _ _ (Evl.Ex.refl _) ?_⟩⟩
        rw [ha, List.take_add_one, hx0]
        rfl
      · intro acc H6 e6 hacc ha
        rw [List.take_length] at ha
        subst ha
        refine ⟨p, _, rfl, .inl ⟨SqL.of hacc, fun t ht => ?_⟩⟩
        have e7 := (e5.trans (exs e6)).trans (exs (Evl.Ex.new (o := .tup acc) ht))
        have ho7 := Evl.Ex.new (o := .tup acc) ht _ _ (e6 _ _ ho5)
        have ht7 : (upd H6 t (.tup acc)) t = some (.tup acc) := upd_same
        generalize upd H6 t (.tup acc) = H7 at e7 ho7 ht7 ⊢
        refine ⟨_, rfl, o, C, dx, _, rfl, ho7, T.cl, T.nQ, by show 1 < 1000; decide, ?_⟩
        have nto : t ≠ o := fun z => by rw [z, ho7] at ht7; cases ht7
        have e8 : ExS o H (upd H7 o (.ins C dx (planF pg t))) := e7.set
        exact kk _ e8 ⟨o, dx, t, acc, rfl, upd_same, by rw [upd_ne nto]; exact ht7, pd_mono hpd fun _ _ h => nbo h e8⟩
end
end Lk
namespace Lk
open PySem PySem.Spec PyProof.Rows L2
open Evl (Ex RetV RetL)
/-! ### what is drawn is in order -/
theorem getD_mem {ps : List Part} {k : Nat} (hk : k < ps.length) : ps.getD k default ∈ ps := by
  rw [List.getD_eq_getElem?_getD, List.getElem?_eq_getElem hk]
  exact List.getElem_mem hk
theorem getD_out {ps : List Part} {k : Nat} (hk : ¬ k < ps.length) : ps.getD k default = default := by
  rw [List.getD_eq_getElem?_getD, List.getElem?_eq_none (by omega)]
  rfl
theorem al_dvd {pg al : Int} (hpg : pg = 8 ∨ pg = 16 ∨ pg = 32) (h : al = 1 ∨ al = 2 ∨ al = 4 ∨ al = 8 ∨ al = 16) (hl : al ≤ pg) : 0 < al ∧ al ∣ pg := by
  rcases hpg with rfl | rfl | rfl <;> rcases h with rfl | rfl | rfl | rfl | rfl <;> first | exact ⟨by decide, by decide⟩ | (exfalso; omega)
theorem plOk {pg : Int} {ps : List Part} (hpg : pg = 8 ∨ pg = 16 ∨ pg = 32) (ok : PsOk pg ps) (hl : ps.length ≤ 6) : PlOk pg ps := by
  have key : ∀ k, 0 < stp pg ps k ∧ stp pg ps k ∣ pg := fun k => by
    unfold stp
    split
    · exact ⟨by omega, Int.dvd_refl _⟩
    · by_cases hk : k < ps.length
      · have h := ok.all _ (getD_mem hk)
        exact al_dvd hpg h.al h.alp
      · rw [getD_out hk]
        exact ⟨by decide, ⟨pg, by show pg = 1 * pg; omega⟩⟩
  refine ⟨by omega, by omega, by omega, fun k => (key k).1, fun k => (key k).2, fun k hk => (ok.all _ (getD_mem hk)).lo, fun k hk => (ok.all _ (getD_mem hk)).mid, fun k hk => ?_⟩
  have h := ok.all _ (getD_mem hk)
  have h1 := h.hi
  have h2 := h.wide
  omega
theorem zsOk {pg : Int} {ps : List Part} (ok : PsOk pg ps) (hl : ps.length ≤ 6) (hw : wides (zsP ps) ≤ 60) : ZsOk (zsP ps) := by
  refine ⟨by rw [show (zsP ps).length = ps.length from List.length_map ..]; omega, fun z hz => ?_, fun z hz => ?_, fun z hz => ?_, hw⟩
  all_goals
    obtain ⟨p, hp, rfl⟩ := List.mem_map.mp hz
    have h := ok.all p hp
    have h1 := h.lo
    have h2 := h.hi
    have h3 := h.mid
    have h4 := h.wide
  · exact h1
  · exact h3
  · show p.most ≤ 1000
    omega
theorem twoOk {pg : Int} {ps : List Part} {a b : Nat} (ok : PsOk pg ps) (hab : a < b) (hb : b < ps.length) : TwoOk ps a b := by
  refine ⟨hab, hb, fun k hk => wordOk_of _ (ok.all _ (getD_mem hk)).wd, fun i j hij hj e => ?_⟩
  have h := List.pairwise_iff_getElem.mp ok.nd i j (by rw [List.length_map]; omega) (by rw [List.length_map]; omega) hij
  rw [List.getElem_map, List.getElem_map] at h
  rw [List.getD_eq_getElem?_getD, List.getD_eq_getElem?_getD, List.getElem?_eq_getElem hj, List.getElem?_eq_getElem (by omega)] at e
  exact h e
def zz (rt : Str) : Part := ⟨"zz", rt, 1, 0, 1, true⟩
theorem zz_ok {pg : Int} {rt : Str} (hpg : 8 ≤ pg) (h : rt ∈ R3) : PtOk pg (zz rt) := ⟨by show ("zz" : Str) ∈ W9; decide +kernel, h, .inl rfl, by show (1 : Int) ≤ pg; omega, by show (0 : Int) ≤ 0; decide, by show (0 : Int) ≤ 33; decide, by show (0 : Int) ≤ 1; decide, by show (1 : Int) ≤ 0 + 9; decide⟩
theorem psOk_zz {pg : Int} {ps : List Part} {rt : Str} (hpg : 8 ≤ pg) (h : rt ∈ R3) (ok : PsOk pg ps) (hw : ∀ q ∈ ps, q.word ∈ W8) : PsOk pg (ps ++ [zz rt]) := by
  refine ⟨fun q hq => ?_, ?_, ok.ch.snoc fun _ _ _ _ _ => rfl⟩
  · rcases List.mem_append.mp hq with hq | hq
    · exact ok.all q hq
    · rw [List.mem_singleton.mp hq]
      exact zz_ok hpg h
  · rw [List.map_append, List.nodup_append]
    refine ⟨ok.nd, List.nodup_cons.mpr ⟨by simp, List.nodup_nil⟩, fun x hx y hy e => ?_⟩
    obtain ⟨q, hq, rfl⟩ := List.mem_map.mp hx
    have hy' : y = "zz" := by simpa [zz] using hy
    have := hw q hq
    rw [e, hy'] at this
    revert this
    decide +kernel
theorem wides_zz {pg : Int} {ps : List Part} {rt : Str} (ok : PsOk pg ps) (h1 : ps.length = 1) : wides (zsP (ps ++ [zz rt])) ≤ 60 := by
  rw [zsP_snoc, wides_snoc]
  match ps, h1 with
  | [q], _ =>
    have h := ok.all q (List.mem_singleton.mpr rfl)
    have h1 := h.mid
    have h2 := h.wide
    show 1 * (q.most + 1 - q.least).toNat * (1 + 1 - 0 : Int).toNat ≤ 60
    have e : (1 + 1 - 0 : Int).toNat = 2 := rfl
    rw [e]
    omega
/-! ### farness by rows -/
theorem getD_range {n k : Nat} {f : Nat → Int} (hk : k < n) : ((List.range n).map f).getD k 0 = f k := by
  rw [List.getD_eq_getElem?_getD, List.getElem?_map, List.getElem?_range hk]
  rfl
theorem far_rows {pg : Int} {ps : List Part} {a b : Nat} {far : Int} {r : List Int} (hab : a < b) (hb : b < ps.length) (hr : RowIn ps r) :
    Far pg ps a b far r ↔ ∀ s, RowIn ps s → below s r = true → reachP pg ps a b s ≤ far := by
  constructor
  · intro h s hs hbl
    refine h (hiR s) fun k hk => ⟨(hs.2 k (by omega)).1, ?_⟩
    exact (below_get (hs.1.trans hr.1.symm)).mp hbl k (by have := hs.1; omega)
  · intro h sz hsz
    have hin : RowIn ps ((List.range ps.length).map fun k => if k < b then sz k else r.getD k 0) := by
      refine ⟨by rw [List.length_map, List.length_range], fun k hk => ?_⟩
      rw [getD_range hk]
      obtain ⟨h1, h2⟩ := hr.2 k hk
      by_cases q : k < b
      · rw [if_pos q]
        obtain ⟨h3, h4⟩ := hsz k q
        exact ⟨h3, Int.le_trans h4 h2⟩
      · rw [if_neg q]
        exact ⟨h1, h2⟩
    have hbl : below ((List.range ps.length).map fun k => if k < b then sz k else r.getD k 0) r = true := by
      rw [below_get (hin.1.trans hr.1.symm)]
      intro k hk
      rw [List.length_map, List.length_range] at hk
      rw [getD_range hk]
      by_cases q : k < b
      · rw [if_pos q]
        exact (hsz k q).2
      · rw [if_neg q]
        exact Int.le_refl _
    have := h _ hin hbl
    have ha : ∀ n, n ≤ b → adr (stp pg ps) (hiR ((List.range ps.length).map fun k => if k < b then sz k else r.getD k 0)) n = adr (stp pg ps) sz n := fun n hn => adr_congr n fun k hk => by
      show ((List.range ps.length).map fun k => if k < b then sz k else r.getD k 0).getD k 0 = sz k
      rw [getD_range (by omega), if_pos (by omega)]
    unfold reachP at this
    rw [ha b (Nat.le_refl _), ha a (by omega)] at this
    exact this
/-- the law's own test of a row -/
def okRow (pg : Int) (ps : List Part) (a b : Nat) (far : Int) (r : List Int) : Bool := (((rowsP ps).filter fun s => below s r).map fun s => decide (reachP pg ps a b s ≤ far)).all id
theorem okRow_iff {pg : Int} {ps : List Part} {a b : Nat} {far : Int} {r : List Int} (hab : a < b) (hb : b < ps.length) (hr : RowIn ps r) : okRow pg ps a b far r = true ↔ Far pg ps a b far r := by
  rw [far_rows hab hb hr]
  unfold okRow
  rw [List.all_eq_true]
  constructor
  · intro h s hs hbl
    have := h (decide (reachP pg ps a b s ≤ far)) (List.mem_map.mpr ⟨s, List.mem_filter.mpr ⟨mem_rowsP.mpr hs, hbl⟩, rfl⟩)
    exact of_decide_eq_true this
  · intro h x hx
    obtain ⟨s, hs, rfl⟩ := List.mem_map.mp hx
    obtain ⟨h1, h2⟩ := List.mem_filter.mp hs
    exact decide_eq_true (h s (mem_rowsP.mp h1) h2)
theorem holdP_eq {pg : Int} {ps : List Part} {a b : Nat} {far : Int} (hab : a < b) (hb : b < ps.length) : holdP pg ps a b far = (rowsP ps).filter (okRow pg ps a b far) := by
  unfold holdP
  refine List.filter_congr fun r hr => ?_
  rw [Bool.eq_iff_iff, okRow_iff hab hb (mem_rowsP.mp hr)]
  simp
/-- drawn bounds hold just if they are within a greatest one -/
theorem hold_any {pg : Int} {ps : List Part} {a b : Nat} {far : Int} {r : List Int} (hab : a < b) (hb : b < ps.length) (hr : RowIn ps r) : ((tops (holdP pg ps a b far)).any fun o => below r o) = true ↔ Far pg ps a b far r := by
  rw [List.any_eq_true]
  constructor
  · rintro ⟨o, ho, hbl⟩
    obtain ⟨h1, _⟩ := mem_tops.mp ho
    obtain ⟨h2, h3⟩ := mem_holdP.mp h1
    intro sz hsz
    refine h3 sz fun k hk => ⟨(hsz k hk).1, Int.le_trans (hsz k hk).2 ?_⟩
    exact (below_get (hr.1.trans h2.1.symm)).mp hbl k (by have := hr.1; omega)
  · intro h
    obtain ⟨o, ho, hbl⟩ := tops_above (n := ps.length) (fun r hr => (mem_holdP.mp hr).1.1) r (mem_holdP.mpr ⟨hr, h⟩)
    exact ⟨o, ho, hbl⟩
/-! ### the table of reaches -/
def kvR (g : List Int → Int) (r : List Int) : List L2.Key × V := (r.map Sum.inl, .int (g r))
theorem inl_inj : ∀ {r s : List Int}, (r.map Sum.inl : List L2.Key) = s.map Sum.inl → r = s
  | [], [], _ => rfl
  | [], _ :: _, h => by simp at h
  | _ :: _, [], h => by simp at h
  | x :: xs, y :: ys, h => by
    rw [List.map_cons, List.map_cons] at h
    injection h with h1 h2
    injection h1 with h1
    rw [h1, inl_inj h2]
theorem kV_inl (r : List Int) : ((r.map Sum.inl : List L2.Key).map kV) = r.map V.int := by
  rw [List.map_map]
  rfl
theorem valV_rows {g : List Int → Int} : ∀ {rs : List (List Int)} {r : List Int}, r ∈ rs → valV (rs.map (kvR g)) (r.map Sum.inl) = some (.int (g r))
  | s :: rs, r, h => by
    unfold valV
    rw [List.map_cons, List.find?_cons]
    by_cases e : s = r
    · subst e
      have : decide ((kvR g s).1 = s.map Sum.inl) = true := decide_eq_true rfl
      rw [this]
      rfl
    · have : decide ((kvR g s).1 = r.map Sum.inl) = false := decide_eq_false fun z => e (inl_inj z)
      rw [this]
      have hr : r ∈ rs := by
        rcases List.mem_cons.mp h with h | h
        · exact absurd h.symm e
        · exact h
      have ih := valV_rows (g := g) hr
      unfold valV at ih
      exact ih
theorem nodup_kv {g : List Int → Int} {rs : List (List Int)} (h : rs.Nodup) : ((rs.map (kvR g)).map (·.1)).Nodup := by
  rw [List.map_map]
  exact List.pairwise_map.mpr (h.imp fun hne e => hne (inl_inj e))
/-! ### data of rows -/
def pdRow (r : List Int) : PyData := .tuple (r.map PyData.int)
theorem dpAll_rows {K : PySem.W.Frag} {H : Hp} : ∀ {xs : List V} {rs : List (List Int)}, Paired (RowV H) xs rs → DpAll K H xs (rs.map pdRow)
  | _, _, .nil => .nil
  | _, _, .cons r t => .cons (dp_row r) (dpAll_rows t)
theorem canLay_rows : ∀ rs : List (List Int), PyData.canLayAll0 (rs.map pdRow) = true
  | [] => by simp [PyData.canLayAll0]
  | r :: rs => by
    rw [List.map_cons]
    simp [PyData.canLayAll0, PyData.canLay0, canLay_rows rs, pdRow, canLay_ints]
theorem depthAll_rows : ∀ rs : List (List Int), PyData.depthAll (rs.map pdRow) ≤ 1
  | [] => Nat.zero_le _
  | r :: rs => by
    rw [List.map_cons]
    show max (PyData.depth (pdRow r)) (PyData.depthAll (rs.map pdRow)) ≤ 1
    have := depthAll_rows rs
    have e : PyData.depth (pdRow r) = PyData.depthAll (r.map PyData.int) + 1 := rfl
    rw [depthAll_ints] at e
    omega
theorem shaped_rows (rs : List (List Int)) : SeqAt.shaped (.list (rs.map pdRow)) = true := by
  unfold SeqAt.shaped
  rw [Bool.and_eq_true]
  refine ⟨?_, decide_eq_true ?_⟩
  · simp only [PyData.canLay0, canLay_rows]
  · show PyData.depthAll (rs.map pdRow) + 1 ≤ 64
    have := depthAll_rows rs
    omega
theorem any_rows (rs : List (List Int)) (r : List Int) : ((rs.map pdRow).any fun z => PyData.eqv z (pdRow r)) = decide (r ∈ rs) := by
  rw [List.any_map]
  induction rs with
  | nil => rfl
  | cons s rs ih =>
    rw [List.any_cons, ih]
    show (PyData.eqv (pdRow s) (pdRow r) || _) = _
    rw [show PyData.eqv (pdRow s) (pdRow r) = decide (s = r) from eqv_row s r]
    by_cases q : s = r
    · subst q
      simp
    · have q' : ¬ r = s := fun z => q z.symm
      simp [q, q']
theorem RowsV.exs {a f : Addr} {n : Nat} {H H' : Hp} {rs : List (List Int)} (h : RowsV H f rs) (s : Src n H a) (e : ExS a H H') (hf : f ≠ a) : RowsV H' f rs := let ⟨xs, h1, h2⟩ := h; ⟨xs, e _ _ hf h1, pd_mono h2 fun _ _ q => q.mono (mo_s s e)⟩
end Lk
namespace Lk
open PySem PySem.Spec PyProof.Rows L2
open Evl (Ex RetV RetL)
def rSortAny (K : PySem.W.Frag) : List V → Hp → VK → Prop := fun vs H Q => ∃ d, 1 ≤ d ∧ rSortU K d 1001 vs H Q
theorem cr_sortAny {X : Cx} : CallR X (.builtin "sorted") (rSortAny X.K) := fun pins s σ H vs us Q I r ⟨d, hd, h⟩ => cr_sortT hd pins s σ H vs us Q I r h
theorem ex_of {a : Addr} {H H' : Hp} (h : H a = none) (e : ExS a H H') : Ex H H' := fun p o hp => e p o (ne_of_none hp h) hp
def KvP (H : Hp) (p : Addr) (kv : List L2.Key × V) : Prop := ∃ b, H p = some (.tup [.ref b, kv.2]) ∧ H b = some (.tup (kv.1.map kV))
theorem KvP.mono {H H' : Hp} {p : Addr} {kv : List L2.Key × V} (e : Mo H H') (h : KvP H p kv) : KvP H' p kv := let ⟨b, h1, h2⟩ := h; ⟨b, e _ _ h1 trivial, e _ _ h2 trivial⟩
theorem pdk_mono {R R' : Addr → List L2.Key × V → Prop} {xs : List Addr} {ys : List (List L2.Key × V)} (h : Paired R xs ys) (f : ∀ p kv, R p kv → R' p kv) : Paired R' xs ys := L2.Paired.mapP h f
section
variable {P : Program} {w : World} {K : PySem.W.Frag} {mg : Str → Option Value} {base : Heap} {C aR aA aP : Addr}
def sp_law (K : PySem.W.Frag) : Sp := fun vs H Q _ => ∃ (s : Addr) (ns : List Int), vs = [.ref s] ∧ SqL K H s (ns.map V.int) ∧ ns.length ≤ 63 ∧ ∀ H', Q (.bl true) H'
theorem sc_law : FnScope ["_law_script", "_law_turn", "_law_source_here", "_law_page", "_law_parts_here", "_law_more", "_law_second", "_law_first", "_law_plan", "_law_rows_here", "_law_one", "_law_other", "_law_known", "_law_some", "_law_far", "_law_holding", "_law_bounds", "_law_due", "_law_k", "_law_told", "_law_sizes", "_law_wide"] ["_law_script"] (defScope s_law) := ⟨rfl, rfl, rfl, by decide +kernel, rfl, by decide +kernel, by decide +kernel⟩
theorem ok_law {f fi : Addr} {fd fdi : FuncData} (T : Txt K mg C aR aA aP) (F : FnP K "law" s_law f fd) (M_Plan : Mk K C fi) (F_Plan : FnOk P w K mg base CX0 4 fi fdi ["self", "page", "parts"] (sp_init C)) (b_Plan : Binds K fdi ["self", "page", "parts"] [])
    (c_law_source : Cal P w K mg base 1 "_law_source" (sp_law_source K)) (c_law_few : Cal P w K mg base 4 "_law_few" sp_law_few) (c_law_pick : Cal P w K mg base 2 "_law_pick" sp_pick) (c_law_draw : Cal P w K mg base 1 "_law_draw" sp_draw) (c_law_all_sizes : Cal P w K mg base 2 "_law_all_sizes" sp_law_all_sizes)
    (c_law_reach : Cal P w K mg base 3 "_law_reach" sp_law_reach) (c_law_is_below : Cal P w K mg base 1 "_law_is_below" sp_below) (c_greatest_bounds : Cal P w K mg base 5 "greatest_bounds" (sp_greatest_bounds C)) (c_law_same : Cal P w K mg base 3 "_law_same" sp_same2) (c_law_same0 : Cal P w K mg base 1 "_law_same" sp_same0)
    (c_bounds_hold : Cal P w K mg base 5 "bounds_hold" (sp_bounds_hold C)) (c_law_loose : Cal P w K mg base 2 "_law_loose" sp_loose) : FnOk P w K mg base CX0 6 f fd ["_law_script"] (sp_law K) := by
  have nd := sc_law.nd
  refine fn_mk F sc_law (fun vs H Q E h => ?_) (fun cdv A outer sh H vs Q E hr h => ?_)
  · obtain ⟨s, ns, rfl, _⟩ := h
    rfl
  · obtain ⟨s, ns, rfl, hs, hn, kk⟩ := h
    have hu := hu_of hr
    have hu2 := hu2_of hr
    have hu64 := hu64_of hr
    have hu65 := hu65_of hr
    refine ⟨_, (pss_cons
    (ps_for PassesOwn.never rfl (pi_range1 (by rfl) T.range (pa_cons (pe_op op_add pe_int (pe_callB (call_min2 rfl) (by rfl) T.min (by decide +kernel) (pa_cons (pe_callB call_len_seq (by rfl) T.len PySem.boot_len (pa_cons (pv 0) pa_nil)) (pa_cons pe_int pa_nil)))) pa_nil)) (pg_name (i := 1) nd rfl (Or.inl rfl))
      (pss_cons
      (ps_set (i := 2) nd rfl (Or.inl rfl) (pe_c c_law_source hr (by decide) rfl (pa_cons (pv 0) (pa_cons (pv 1) pa_nil))))
      (pss_cons
      (ps_asg (pe_c c_law_few hr (by decide) rfl (pa_cons (pv 2) (pa_cons pe_int pa_nil))) (pg_tup rfl (pgs_cons (pg_name (i := 3) nd rfl (Or.inr rfl)) (pgs_cons (pg_name (i := 4) nd rfl (Or.inr rfl)) pgs_nil))))
      (pss_cons
      (ps_set (i := 5) nd rfl (Or.inl rfl) (pe_op op_rep (pe_lst (pa_cons (pe_tup (pa_cons pe_str (pa_cons (pe_c c_law_pick hr (by decide) rfl (pa_cons (pv 2) (pa_cons (pe_lst (pa_cons pe_str (pa_cons pe_str pa_nil))) pa_nil))) (pa_cons pe_int (pa_cons pe_int (pa_cons pe_int (pa_cons pe_bl pa_nil))))))) pa_nil)) (pe_callTy call_int1 (by rfl) T.int (by decide +kernel) (pa_cons (pe_cmpR op_lt (pe_callB call_len_seq (by rfl) T.len PySem.boot_len (pa_cons (pv 4) pa_nil)) pe_int (nomark _)) pa_nil))))
      (C8.pss_cut
      (ps_set (i := 4) nd rfl (Or.inr rfl) (pe_op op_cat (pv 4) (pv 5)))
      (C8.pss_cut
      (ps_set (i := 6) nd rfl (Or.inr rfl) (pe_op op_add pe_int (pe_c c_law_draw hr (by decide) rfl (pa_cons (pv 2) (pa_cons (pe_op op_sub (pe_callB call_len_seq (by rfl) T.len PySem.boot_len (pa_cons (pv 4) pa_nil)) pe_int) pa_nil)))))
      (pss_cons
      (ps_set (i := 7) nd rfl (Or.inr rfl) (pe_c c_law_draw hr (by decide) rfl (pa_cons (pv 2) (pa_cons (pv 6) pa_nil))))
      (pss_cons
      (ps_par (i := 8) (j := 9) rfl nd rfl rfl (by decide) rfl rfl (pa_cons (pe_make M_Plan F_Plan (hr.mono (by decide)) rfl T.Plan b_Plan .nil pass0 (pa_cons (pv 3) (pa_cons (pv 4) pa_nil))) (pa_cons (pe_c c_law_all_sizes hr (by decide) rfl (pa_cons (pv 4) pa_nil)) pa_nil)) (by rfl))
      (pss_cons
      (ps_par (i := 10) (j := 11) rfl nd rfl rfl (by decide) rfl rfl (pa_cons (pe_ix ix_tup (pe_ix ix_list (pv 4) (pv 7) (fun _ _ => rfl)) pe_int (fun _ _ => rfl)) (pa_cons (pe_ix ix_tup (pe_ix ix_list (pv 4) (pv 6) (fun _ _ => rfl)) pe_int (fun _ _ => rfl)) pa_nil)) (by rfl))
      (pss_cons
      (ps_set (i := 12) nd rfl (Or.inr rfl) (pe_callTy (call_dictT rfl hu2) (by rfl) T.dict (by decide +kernel) (pa_cons (pe_lc (own := [("_law_sizes", 20)]) rfl nd (pi_listK (K := K) rfl (pv 9)) (blkOk_by (N := ["_law_script", "_law_turn", "_law_source_here", "_law_page", "_law_parts_here", "_law_more", "_law_second", "_law_first", "_law_plan", "_law_rows_here", "_law_one", "_law_other", "_law_known", "_law_some", "_law_far", "_law_holding", "_law_bounds", "_law_due", "_law_k", "_law_told", "_law_sizes", "_law_wide"]) (sc := defScope s_law) (by decide +kernel)) (fun _ _ _ _ _ => (pg_name (i := 20) nd rfl (Or.inl rfl))) (fun _ _ _ _ _ => pts_nil) (fun _ _ _ _ _ => (pe_tup (pa_cons (pv 20) (pa_cons (pe_c c_law_reach hr (by decide) rfl (pa_cons (pv 3) (pa_cons (pv 4) (pa_cons (pv 7) (pa_cons (pv 6) (pa_cons (pv 20) pa_nil)))))) pa_nil))))) pa_nil)))
      (pss_cons
      (ps_set (i := 13) nd rfl (Or.inl rfl) (pe_callTy (call_list_vals rfl) (by rfl) T.list (by decide +kernel) (pa_cons (pe_bm0 PySem.F.plainAttrs_dict PySem.F.slot_dict_values PySem.F.type_dict_values mt_valuesT (pv 12)) pa_nil)))
      (pss_cons
      (ps_set (i := 14) nd rfl (Or.inr rfl) (pe_c c_law_pick hr (by decide) rfl (pa_cons (pv 2) (pa_cons (pe_lst (pa_cons (pe_c c_law_pick hr (by decide) rfl (pa_cons (pv 2) (pa_cons (pv 13) pa_nil))) (pa_cons (pe_op op_sub (pe_c c_law_pick hr (by decide) rfl (pa_cons (pv 2) (pa_cons (pv 13) pa_nil))) pe_int) (pa_cons (pe_callB (cr_min rfl) (by rfl) T.min (by decide +kernel) (pa_cons (pv 13) pa_nil)) pa_nil)))) pa_nil))))
      (pss_cons
      (ps_set (i := 15) nd rfl (Or.inl rfl) (pe_lst pa_nil))
      (pss_cons
      (ps_for PassesOwn.never rfl (pi_listK (K := K) rfl (pv 9)) (pg_name (i := 16) nd rfl (Or.inr rfl))
        (pss_one
        (ps_if (pt_val (pe_callB (cr_all rfl) (by rfl) T.all (by decide +kernel) (pa_cons (pe_lc (own := [("_law_sizes", 20)]) rfl nd (pi_listK (K := K) rfl (pv 9)) (blkOk_by (N := ["_law_script", "_law_turn", "_law_source_here", "_law_page", "_law_parts_here", "_law_more", "_law_second", "_law_first", "_law_plan", "_law_rows_here", "_law_one", "_law_other", "_law_known", "_law_some", "_law_far", "_law_holding", "_law_bounds", "_law_due", "_law_k", "_law_told", "_law_sizes", "_law_wide"]) (sc := defScope s_law) (by decide +kernel)) (fun _ _ _ _ _ => (pg_name (i := 20) nd rfl (Or.inl rfl))) (fun _ _ _ _ _ => (pts_one (pt_val (pe_c c_law_is_below hr (by decide) rfl (pa_cons (pv 20) (pa_cons (pv 16) pa_nil)))))) (fun _ _ _ _ _ => (pe_cmpR op_le (pe_dget hu (pv 12) (pv 20) (fun _ _ => rfl)) (pv 14) (nomark _)))) pa_nil)))
          (pss_one
          (ps_expr (pe_bm PySem.F.plainAttrs_list PySem.F.slot_list_append PySem.F.type_list_append mt_append (pv 15) (pa_cons (pv 16) pa_nil))))
          pss_nil)))
      (pss_cons
      (ps_set (i := 17) nd rfl (Or.inl rfl) (pe_lst pa_nil))
      (pss_cons
      (ps_for PassesOwn.never rfl (pi_listK (K := K) rfl (pv 15)) (pg_name (i := 16) nd rfl (Or.inr rfl))
        (pss_one
        (ps_if (pt_not (pt_val (pe_callB (cr_any rfl) (by rfl) T.any (by decide +kernel) (pa_cons (pe_lc (own := [("_law_wide", 21)]) rfl nd (pi_listK (K := K) rfl (pv 15)) (blkOk_by (N := ["_law_script", "_law_turn", "_law_source_here", "_law_page", "_law_parts_here", "_law_more", "_law_second", "_law_first", "_law_plan", "_law_rows_here", "_law_one", "_law_other", "_law_known", "_law_some", "_law_far", "_law_holding", "_law_bounds", "_law_due", "_law_k", "_law_told", "_law_sizes", "_law_wide"]) (sc := defScope s_law) (by decide +kernel)) (fun _ _ _ _ _ => (pg_name (i := 21) nd rfl (Or.inl rfl))) (fun _ _ _ _ _ => pts_nil) (fun _ _ _ _ _ => (pe_and (pe_cmpR (r := rNeD K) (op_neD hu64) (pv 21) (pv 16) (nomark _)) (pe_one (pe_c c_law_is_below hr (by decide) rfl (pa_cons (pv 16) (pa_cons (pv 21) pa_nil))))))) pa_nil))))
          (pss_one
          (ps_expr (pe_bm PySem.F.plainAttrs_list PySem.F.slot_list_append PySem.F.type_list_append mt_append (pv 17) (pa_cons (pv 16) pa_nil))))
          pss_nil)))
      (pss_cons
      (ps_expr (pe_bm PySem.F.plainAttrs_list PySem.F.slot_list_append PySem.F.type_list_append mt_append (pe_c c_greatest_bounds hr (by decide) rfl (pa_cons (pv 8) (pa_cons (pv 10) (pa_cons (pv 11) (pa_cons (pv 14) pa_nil))))) (pa_cons pe_str pa_nil)))
      (pss_cons
      (ps_if (pt_not (pt_val (pe_c c_law_same hr (by decide) rfl (pa_cons (pe_c c_greatest_bounds hr (by decide) rfl (pa_cons (pv 8) (pa_cons (pv 10) (pa_cons (pv 11) (pa_cons (pv 14) pa_nil))))) (pa_cons (pe_callB (r := rSortAny K) cr_sortAny (by rfl) T.sorted (by decide +kernel) (pa_cons (pv 17) pa_nil)) pa_nil)))))
        (pss_one
        (ps_ret pe_bl))
        pss_nil)
      (pss_one
      (ps_for PassesOwn.never rfl (pi_range1 (by rfl) T.range (pa_cons pe_int pa_nil)) (pg_name (i := 18) nd rfl (Or.inl rfl))
        (pss_cons
        (ps_set (i := 16) nd rfl (Or.inr rfl) (pe_c c_law_pick hr (by decide) rfl (pa_cons (pv 2) (pa_cons (pv 9) pa_nil))))
        (pss_cons
        (ps_set (i := 19) nd rfl (Or.inl rfl) (pe_c c_bounds_hold hr (by decide) rfl (pa_cons (pv 8) (pa_cons (pe_c c_law_loose hr (by decide) rfl (pa_cons (pv 2) (pa_cons (pe_callTy call_list_of (by rfl) T.list (by decide +kernel) (pa_cons (pv 16) pa_nil)) pa_nil))) (pa_cons (pv 10) (pa_cons (pv 11) (pa_cons (pv 14) pa_nil)))))))
        (pss_cons
        (ps_if (pt_not (pt_val (pe_c c_law_same0 hr (by decide) rfl (pa_cons (pv 19) (pa_cons (pe_cmpR (op_inD hu65) (pv 16) (pv 15) (by rfl)) pa_nil)))))
          (pss_one
          (ps_ret pe_bl))
          pss_nil)
        (pss_one
        (ps_if (pt_cmpR op_ne (pv 19) (pe_callB (cr_any rfl) (by rfl) T.any (by decide +kernel) (pa_cons (pe_lc (own := [("_law_wide", 21)]) rfl nd (pi_listK (K := K) rfl (pv 17)) (blkOk_by (N := ["_law_script", "_law_turn", "_law_source_here", "_law_page", "_law_parts_here", "_law_more", "_law_second", "_law_first", "_law_plan", "_law_rows_here", "_law_one", "_law_other", "_law_known", "_law_some", "_law_far", "_law_holding", "_law_bounds", "_law_due", "_law_k", "_law_told", "_law_sizes", "_law_wide"]) (sc := defScope s_law) (by decide +kernel)) (fun _ _ _ _ _ => (pg_name (i := 21) nd rfl (Or.inl rfl))) (fun _ _ _ _ _ => pts_nil) (fun _ _ _ _ _ => (pe_c c_law_is_below hr (by decide) rfl (pa_cons (pv 16) (pa_cons (pv 21) pa_nil))))) pa_nil)) (nomark _))
          (pss_one
          (ps_ret pe_bl))
          pss_nil)))))))))))))))))))))))))
    (pss_one
    (ps_ret pe_bl))), ?_⟩
    refine ⟨_, rfl, s, _, rfl, .inl hs, _, _, rfl, ?_⟩
    obtain ⟨mm, emm⟩ : ∃ mm : Int, mm = (if (2 : Int) < ((ns.map V.int).length : Int) then 2 else ((ns.map V.int).length : Int)) := ⟨_, rfl⟩
    have hmm : 0 ≤ mm ∧ mm ≤ 2 := by rw [emm]; split <;> omega
    rw [← emm]
    refine ⟨_, _, rfl, rfl, _, rfl, by omega, by omega, ?_⟩
    refine for_range (lo := 0) (n := (1 + mm).toNat) (fun i σ H' => (∃ v1 v2 v3 v4 v5 v6 v7 v8 v9 v10 v11 v12 v13 v14 v15 v16 v17 v18 v19 v20 v21 : Option V, σ = [some (.ref s), v1, v2, v3, v4, v5, v6, v7, v8, v9, v10, v11, v12, v13, v14, v15, v16, v17, v18, v19, v20, v21]) ∧ Ex H H') ⟨⟨_, _, _, _, _, _, _, _, _, _, _, _, _, _, _, _, _, _, _, _, _, rfl⟩, Evl.Ex.refl _⟩ ?_ (fun σ H' _ => kk _)
    rintro i σ H1 hi ⟨⟨v1, v2, v3, v4, v5, v6, v7, v8, v9, v10, v11, v12, v13, v14, v15, v16, v17, v18, v19, v20, v21, rfl⟩, e01⟩
    have hs1 := Evl.ex_l (K := K) e01 hs
    refine ⟨_, rfl, _, rfl, s, i, ns, by show [V.ref s, V.int (0 + (i : Int))] = _; rw [Int.zero_add], hs1, by omega, by omega, fun a H2 ha e2 src2 => ?_⟩
    refine ⟨_, rfl, a, 0, rfl, src2, by decide, fun t p H3 pg ps0 hp e3 src3 ht hparts3 hpg hok hl1 hl5 hw8 hwd => ?_⟩
    refine ⟨t, _, rfl, SqT.of ht, rfl, _, _, rfl, _, _, rfl, rfl, ?_⟩
    have x3 : ExS a H1 H3 := (exs e2).trans e3
    have npa : p ≠ a := (src2.ne hp).symm
    have hpg8 : 8 ≤ pg := by omega
    refine ⟨_, rfl, by show 2 ≤ sizeLine; decide, fun l hl => ⟨a, l, _, _, rfl, upd_same, (src3.ne hl).symm, by simp, by simp, src3.ex (Evl.Ex.new hl), by decide, fun H4 y hy e4 src4 => ?_⟩⟩
    obtain ⟨rt, rfl, hrt⟩ : ∃ rt, y = V.str rt ∧ rt ∈ R3 := by
      simp only [List.mem_cons, List.not_mem_nil, or_false] at hy
      rcases hy with rfl | rfl <;> exact ⟨_, rfl, by decide +kernel⟩
    have x4 : ExS a H1 H4 := (x3.trans (exs (Evl.Ex.new hl))).trans e4
    have hparts4 := (hparts3.mono (Evl.Ex.new hl)).exs (src3.ex (Evl.Ex.new hl)) e4 npa
    refine ⟨by show 6 ≤ sizeLine; decide, fun t2 ht2 => ⟨by show 1 ≤ sizeLine; decide, fun l2 hl2 => ?_⟩⟩
    have e5 := (Evl.Ex.new (o := .tup [V.str "zz", V.str rt, V.int 1, V.int 0, V.int 1, V.bl true]) ht2).trans (Evl.Ex.new (o := .lst [V.ref t2]) hl2)
    have hl25 : (upd (upd H4 t2 (.tup [V.str "zz", V.str rt, V.int 1, V.int 0, V.int 1, V.bl true])) l2 (.lst [V.ref t2])) l2 = some (.lst [V.ref t2]) := upd_same
    have ht25 : (upd (upd H4 t2 (.tup [V.str "zz", V.str rt, V.int 1, V.int 0, V.int 1, V.bl true])) l2 (.lst [V.ref t2])) t2 = some (.tup (zz rt).vals) := Evl.Ex.new hl2 _ _ upd_same
    generalize upd (upd H4 t2 (.tup [V.str "zz", V.str rt, V.int 1, V.int 0, V.int 1, V.bl true])) l2 (.lst [V.ref t2]) = H5 at e5 hl25 ht25 ⊢
    have x5 := x4.trans (exs e5)
    have src5 := src4.ex e5
    obtain ⟨xs0, hxs0, hpd0⟩ := hparts4.mono e5
    have hxl0 := pd_len hpd0
    refine ⟨_, rfl, p, _, rfl, .inl (SqL.of hxs0), _, _, rfl, rfl, .inr ⟨_, rfl, l2, _, _, rfl, rfl, hl25, by split <;> decide, by split <;> decide, by split <;> (show 1 * _ ≤ sizeLine; decide), fun p3 hp3 => ?_⟩⟩
    refine ⟨fun σ' H' => ∃ (p4 : Addr) (ps : List Part) (v5 : Option V), σ' = [some (.ref s), some (.int (0 + (i : Int))), some (.ref a), some (.int pg), some (.ref p4), v5, v6, v7, v8, v9, v10, v11, v12, v13, v14, v15, v16, v17, v18, v19, v20, v21] ∧ ExS a H1 H' ∧ Src 201 H' a ∧ PartsV H' p4 ps ∧ p4 ≠ a ∧ PsOk pg ps ∧ 2 ≤ ps.length ∧ ps.length ≤ 6 ∧ wides (zsP ps) ≤ 60, ?_, ?_⟩
    · have e6 := Evl.Ex.new (o := .lst (List.replicate (if decide ((xs0.length : Int) < 2) = true then (1 : Int) else 0).toNat [V.ref t2]).flatten) hp3
      refine ⟨_, rfl, _, rfl, p, p3, _, _, rfl, rfl, e6 _ _ hxs0, upd_same, ?_, fun p4 hp4 => ?_⟩
      · have : (List.replicate (if decide ((xs0.length : Int) < 2) = true then (1 : Int) else 0).toNat [V.ref t2]).flatten.length ≤ 1 := by split <;> simp
        rw [sizeLine_eq]
        omega
      · have e7 := e6.trans (Evl.Ex.new (o := .lst (xs0 ++ (List.replicate (if decide ((xs0.length : Int) < 2) = true then (1 : Int) else 0).toNat [V.ref t2]).flatten)) hp4)
        have np4 : p4 ≠ a := ((src5.ex e6).ne hp4).symm
        by_cases q : (xs0.length : Int) < 2
        · refine ⟨p4, ps0 ++ [zz rt], _, rfl, x5.trans (exs e7), src5.ex e7, ⟨xs0 ++ [.ref t2], ?_, ?_⟩, np4, psOk_zz hpg8 hrt hok hw8, ?_, ?_, wides_zz hok (by omega)⟩
          · rw [upd_same, if_pos (decide_eq_true q)]
            rfl
          · exact pd_snoc (pd_mono hpd0 fun _ _ h => h.mono (mo_ex e7)) ⟨t2, rfl, e7 _ _ ht25⟩
          · rw [List.length_append, List.length_singleton]
            omega
          · rw [List.length_append, List.length_singleton]
            omega
        · refine ⟨p4, ps0, _, rfl, x5.trans (exs e7), src5.ex e7, ⟨xs0, ?_, pd_mono hpd0 fun _ _ h => h.mono (mo_ex e7)⟩, np4, hok, by omega, by omega, hwd⟩
          rw [upd_same, if_neg (by simpa using q)]
          simp
    clear hparts3 hparts4 hpd0 hxs0 hl25 ht25 e5 src5 x5 hwd hw8 hok hl1 hl5
    rintro σ' H6 ⟨p4, ps, v5, rfl, x6, src6, hparts6, np4, hok, hl2', hl6, hwd⟩
    refine ⟨fun σ' H' => ∃ (i2 : Nat) (z : Int), σ' = [some (.ref s), some (.int (0 + (i : Int))), some (.ref a), some (.int pg), some (.ref p4), v5, some (.int z), v7, v8, v9, v10, v11, v12, v13, v14, v15, v16, v17, v18, v19, v20, v21] ∧ z = (i2 : Int) ∧ 1 ≤ i2 ∧ i2 < ps.length ∧ ExS a H1 H' ∧ Src 202 H' a ∧ PartsV H' p4 ps, ?_, ?_⟩
    · obtain ⟨xs, hxs, hpd⟩ := hparts6
      have hxl := pd_len hpd
      refine ⟨_, rfl, _, rfl, p4, _, rfl, .inl (SqL.of hxs), _, _, rfl, rfl, a, _, 201, rfl, by omega, by omega, src6, by decide, fun H7 k e7 src7 hk => ⟨_, _, rfl, rfl, ?_⟩⟩
      exact ⟨k + 1, _, rfl, by omega, by omega, by omega, x6.trans e7, src7, PartsV.exs ⟨xs, hxs, hpd⟩ src6 e7 np4⟩
    rintro σ' H7 ⟨i2, z, rfl, rfl, hi2, hi2', x7, src7, hparts7⟩
    refine ⟨_, rfl, _, rfl, a, _, 202, rfl, by omega, by omega, src7, by decide, fun H8 i1 e8 src8 hi1 => ?_⟩
    have hi12 : i1 < i2 := by omega
    have x8 := x7.trans e8
    have hparts8 := hparts7.exs src7 e8 np4
    have plok := plOk hpg hok hl6
    have zok := zsOk hok hl6 hwd
    have two := twoOk hok hi12 hi2'
    refine ⟨_, rfl, _, rfl, fun x dx hx hdx ne => ?_⟩
    have hx' : (upd H8 dx (.own x)) x = none := by rw [upd_ne ne.symm]; exact hx
    have e8' : Ex H8 (upd (upd H8 dx (.own x)) x (.ins C dx [])) := (Evl.Ex.new hdx).trans (Evl.Ex.new hx')
    refine ⟨x, dx, pg, p4, ps, rfl, upd_same, hparts8.mono e8', hpg, hok, by omega, by omega, fun H9 e9 hplan9 => ⟨rfl, ?_⟩⟩
    have e89 : Ex H8 H9 := fun p u hp => e9 p u (ne_of_none hp hx) (e8' p u hp)
    have hparts9 := hparts8.mono e89
    refine ⟨_, rfl, p4, ps, rfl, hparts9, zok, fun q H10 hq e10 hrows10 => ⟨_, _, rfl, ?_⟩⟩
    have src10 := src8.ex (e89.trans e10)
    have x10 := x8.trans (exs (e89.trans e10))
    have hplan10 := hplan9.mono (mo_ex e10)
    have hparts10 := hparts9.mono e10
    have nqa : q ≠ a := ((src8.ex e89).ne hq).symm
    clear hparts9 hparts8 hparts7 hparts6 hplan9
    obtain ⟨xs4, hx4, hpd4⟩ := hparts10
    obtain ⟨b1, hb1, hp1⟩ := part_at hpd4 (show i1 < ps.length by omega)
    obtain ⟨b2, hb2, hp2⟩ := part_at hpd4 hi2'
    refine ⟨_, rfl, _, rfl, p4, _, _, _, rfl, rfl, SqL.of hx4, atI_nat hb1, b1, _, _, _, rfl, rfl, SqT.of hp1, rfl, ?_⟩
    refine ⟨_, rfl, _, rfl, p4, _, _, _, rfl, rfl, SqL.of hx4, atI_nat hb2, b2, _, _, _, rfl, rfl, SqT.of hp2, rfl, _, _, rfl, ?_⟩
    obtain ⟨xs, hxs, hpd⟩ := hrows10
    have hxl := pd_len hpd
    have hrl : (rowsP ps).length ≤ 60 := by
      rw [rowsP, rowsZ_len]
      exact hwd
    have hrlen : ∀ r ∈ rowsP ps, r.length = ps.length := fun r hr => (mem_rowsP.mp hr).1
    -- known
    refine ⟨_, rfl, q, rfl, ⟨_, SqL.of hxs⟩, fun d0 hd0 => ?_⟩
    refine lc_pure (walk_list (xs := xs)) hd0 (by rw [sizeLine_eq]; omega) (fun i acc H' => ∃ pa : List Addr, acc = pa.map V.ref ∧ Paired (KvP H') pa (((rowsP ps).take i).map (kvR (reachP pg ps i1 i2)))) (fun _ _ _ _ m ⟨pa, e, h⟩ => ⟨pa, e, pdk_mono h fun _ _ h => h.mono m⟩) (fun H' e => SqL.of (e _ _ hxs)) ⟨[], rfl, .nil⟩ ?_ ?_
    · rintro j y H11 H12 acc Kt K0 hj e11 ⟨pa, rfl, hpa⟩ ⟨rfl, hy⟩ k1 _
      obtain ⟨r, hr', b, rfl, hb⟩ := pd_get hpd hy
      have hb11 := e11 _ _ hb
      refine ⟨rfl, yes_ ⟨_, rfl, _, rfl, _, rfl, _, rfl, _, rfl, _, rfl, pg, p4, ps, i1, i2, .ref b, r, rfl, PartsV.mono e11 ⟨xs4, hx4, hpd4⟩, plok, ⟨b, rfl, hb11⟩, hrlen r (List.mem_of_getElem? hr'), by omega, hi2', fun H13 e13 => ⟨by show 2 ≤ sizeLine; decide, fun o ho => k1 _ _ (e13.trans (Evl.Ex.new ho)) ?_⟩⟩⟩
      refine ⟨pa ++ [o], by rw [List.map_append]; rfl, ?_⟩
      rw [take_snoc hr']
      have eo := e13.trans (Evl.Ex.new (o := .tup [V.ref b, V.int (reachP pg ps i1 i2 r)]) ho)
      refine pd_app (pdk_mono hpa fun _ _ h => h.mono (mo_ex eo)) (.cons ⟨b, upd_same, ?_⟩ .nil)
      rw [eo _ _ hb11]
      show _ = some (HO.tup ((r.map Sum.inl).map kV))
      rw [kV_inl]
    · rintro acc H11 e11 hacc ⟨pa, rfl, hpa⟩
      rw [hxl, List.take_length] at hpa
      refine ⟨d0, pa, _, rfl, SqL.of hacc, pdk_mono hpa fun _ _ ⟨b, h1, h2⟩ => ⟨b, SqT.of h1, h2⟩, nodup_kv nodup_rowsZ, fun d hd => ?_⟩
      have e12 := e11.trans (Evl.Ex.new (o := .dT ((rowsP ps).map (kvR (reachP pg ps i1 i2)))) hd)
      have hd12 : (upd H11 d (.dT ((rowsP ps).map (kvR (reachP pg ps i1 i2))))) d = some (.dT ((rowsP ps).map (kvR (reachP pg ps i1 i2)))) := upd_same
      generalize upd H11 d (.dT ((rowsP ps).map (kvR (reachP pg ps i1 i2)))) = H12 at e12 hd12 ⊢
      refine ⟨_, rfl, .inr (.inr (.inl ⟨rfl, .inr ⟨_, hd12⟩⟩)), d, _, rfl, rfl, hd12, fun vw hvw => ⟨vw, d, _, rfl, upd_same, Evl.Ex.new hvw _ _ hd12, fun l5 hl5 => ?_⟩⟩
      have e13 := (e12.trans (Evl.Ex.new (o := valsO vw d) hvw)).trans (Evl.Ex.new (o := .lst (((rowsP ps).map (kvR (reachP pg ps i1 i2))).map (·.2))) hl5)
      have hd13 := Evl.Ex.new (o := .lst (((rowsP ps).map (kvR (reachP pg ps i1 i2))).map (·.2))) hl5 _ _ (Evl.Ex.new (o := valsO vw d) hvw _ _ hd12)
      have hl13 : (upd (upd H12 vw (valsO vw d)) l5 (.lst (((rowsP ps).map (kvR (reachP pg ps i1 i2))).map (·.2)))) l5 = some (.lst (((rowsP ps).map (reachP pg ps i1 i2)).map V.int)) := by
        rw [upd_same, List.map_map, List.map_map]
        rfl
      generalize upd (upd H12 vw (valsO vw d)) l5 (.lst (((rowsP ps).map (kvR (reachP pg ps i1 i2))).map (·.2))) = H13 at e13 hd13 hl13 ⊢
      have src13 := src10.ex e13
      have nda : d ≠ a := fun z => by
        obtain ⟨o, ho⟩ := src13.at_
        rw [← z, hd13] at ho
        cases ho
      have nl5 : l5 ≠ a := by
        have := (src10.ex (e12.trans (Evl.Ex.new (o := valsO vw d) hvw))).ne hl5
        exact this.symm
      have hpos : 0 < (rowsP ps).length := by
        rw [rowsP, rowsZ_len]
        exact wides_pos zok.mid
      have gets : ∀ {y : V}, y ∈ ((rowsP ps).map (reachP pg ps i1 i2)).map V.int → ∃ i : Int, y = V.int i := fun h => by
        obtain ⟨i, _, rfl⟩ := List.mem_map.mp h
        exact ⟨i, rfl⟩
      have hll : (((rowsP ps).map (reachP pg ps i1 i2)).map V.int).length = (rowsP ps).length := by rw [List.length_map, List.length_map]
      refine ⟨_, rfl, _, rfl, _, rfl, a, l5, _, _, rfl, hl13, nl5, by omega, by omega, src13, by decide, fun H14 y1 hy1 e14 src14 => ?_⟩
      obtain ⟨g1, rfl⟩ := gets hy1
      have hl14 := e14 _ _ nl5 hl13
      refine ⟨_, rfl, _, rfl, a, l5, _, _, rfl, hl14, nl5, by omega, by omega, src14, by decide, fun H15 y2 hy2 e15 src15 => ?_⟩
      obtain ⟨g2, rfl⟩ := gets hy2
      have hl15 := e15 _ _ nl5 hl14
      refine ⟨_, _, rfl, rfl, _, rfl, l5, _, rfl, SqL.of hl15, by rw [List.length_map]; exact hpos, fun g3 _ _ => ?_⟩
      refine ⟨by show 3 ≤ sizeLine; decide, fun l6 hl6' => ⟨a, l6, _, _, rfl, upd_same, (src15.ne hl6').symm, by simp, by simp, src15.ex (Evl.Ex.new hl6'), by decide, fun H16 y3 hy3 e16 src16 => ?_⟩⟩
      obtain ⟨far, rfl⟩ : ∃ far : Int, y3 = V.int far := by
        simp only [List.mem_cons, List.not_mem_nil, or_false] at hy3
        rcases hy3 with rfl | rfl | rfl <;> exact ⟨_, rfl⟩
      have x16 : ExS a H10 H16 := (((exs e13).trans e14).trans e15).trans ((exs (Evl.Ex.new hl6')).trans e16)
      have y16 := x10.trans x16
      have hplan16 := hplan10.mono (mo_s src10 x16)
      have hxs16 := x16 _ _ nqa hxs
      have hpd16 := pd_mono hpd fun _ _ (h : RowV H10 _ _) => h.mono (mo_s src10 x16)
      have hd16 := ((e14.trans e15).trans ((exs (Evl.Ex.new hl6')).trans e16)) _ _ nda hd13
      clear hpa hacc hd0 e11 hd e12 hd12 hvw hl5 e13 hd13 hl13 src13 hl14 hl15 e14 src14 e15 src15 hl6' e16 hplan10 hpd hxs x10 src10
      -- holding
      refine ⟨by show 0 ≤ sizeLine; decide, fun h hh => ?_⟩
      have hh16 := hh
      have nha : h ≠ a := (src16.ne hh).symm
      have x17 : ExS a H1 (upd H16 h (.lst [])) := y16.trans (exs (Evl.Ex.new hh))
      refine ⟨_, rfl, q, rfl, ⟨_, SqL.of (Evl.Ex.new hh _ _ hxs16)⟩, ?_⟩
      refine for_it (walk_list (xs := xs)) (fun i' σ H' => (∃ v16 : Option V, σ = [some (.ref s), some (.int (0 + (i : Int))), some (.ref a), some (.int pg), some (.ref p4), v5, some (.int (i2 : Int)), some (.int (i1 : Int)), some (.ref x), some (.ref q), some (.str (ps.getD i1 default).word), some (.str (ps.getD i2 default).word), some (.ref d), some (.ref l5), some (.int far), some (.ref h), v16, v17, v18, v19, v20, v21]) ∧ Ex H16 H' ∧ RowsV H' h (((rowsP ps).take i').filter (okRow pg ps i1 i2 far))) ⟨⟨_, rfl⟩, Evl.Ex.new hh, [], upd_same, .nil⟩ (fun i' σ H' _ q => SqL.of (q.2.1 _ _ hxs16)) ?_ ?_
      · rintro i' x' σ H17 H18 hi' ⟨⟨v16, rfl⟩, e17, hs', hhs, hphs⟩ ⟨rfl, hxx⟩
        have hxx0 : xs[i']? = some x' := hxx
        obtain ⟨r, hr', hv⟩ := pd_get hpd16 hxx0
        have hv17 := hv.mono (mo_ex e17)
        have hrm := List.mem_of_getElem? hr'
        have hft := filter_take (f := okRow pg ps i1 i2 far) hr'
        have hhl := pd_len hphs
        have hfl : (((rowsP ps).take i').filter (okRow pg ps i1 i2 far)).length ≤ 60 := by
          have h1 := List.length_filter_le (okRow pg ps i1 i2 far) ((rowsP ps).take i')
          rw [List.length_take] at h1
          omega
        refine ⟨_, rfl, q, rfl, ⟨_, SqL.of (e17 _ _ hxs16)⟩, fun p5 hp5 => ?_⟩
        refine lc_pure (walk_list (xs := xs)) hp5 (by rw [sizeLine_eq]; omega) (fun j acc _ => acc = ((((rowsP ps).take j).filter fun s => below s r).map fun s => decide (reachP pg ps i1 i2 s ≤ far)).map V.bl) (fun _ _ _ _ _ q => q) (fun H' e => SqL.of (e _ _ (e17 _ _ hxs16))) rfl ?_ ?_
        · rintro j y H19 H20 acc Kt K0 hj e19 hacc ⟨rfl, hy⟩ k1 k0
          have hy0 : xs[j]? = some y := hy
          obtain ⟨s', hs'', hvs⟩ := pd_get hpd16 hy0
          have hsm := List.mem_of_getElem? hs''
          have e17' := e17.trans e19
          have hvs19 := hvs.mono (mo_ex e17')
          have hv19 := hv.mono (mo_ex e17')
          have hfs := filter_take (f := fun s => below s r) hs''
          refine ⟨rfl, _, rfl, _, rfl, y, x', s', r, rfl, hvs19, hv19, (hrlen _ hsm).trans (hrlen _ hrm).symm, by rw [hrlen _ hsm]; omega, fun H21 e21 => ⟨_, rfl, ite2 (fun h0 => ?_) (fun h0 => ?_)⟩⟩
          · have hd21 := e21 _ _ (e17' _ _ hd16)
            obtain ⟨b, rfl, hb⟩ := hvs19.mono (mo_ex e21)
            have hget : DGet H21 d (.ref b) (some (.int (reachP pg ps i1 i2 s'))) := by
              have := DGet.t (k := s'.map Sum.inl) hd21 (b := b) (by rw [kV_inl]; exact hb)
              rw [valV_rows hsm] at this
              exact this
            refine ⟨_, rfl, _, rfl, d, _, rfl, hget, _, rfl, _, _, rfl, rfl, k1 _ _ e21 ?_⟩
            rw [hfs, if_pos h0, List.map_append, List.map_append, hacc]
            rfl
          · refine k0 _ e21 ?_
            rw [hfs, if_neg h0, List.append_nil, hacc]
        · intro acc H19 e19 hacc ha'
          rw [hxl, List.take_length] at ha'
          have e17' := e17.trans e19
          have hhs19 := e19 _ _ hhs
          have hphs19 := pd_mono hphs fun _ _ h => h.mono (mo_ex e19)
          refine ⟨p5, _, rfl, SqL.of (by rw [hacc, ha']), _, rfl, ?_⟩
          refine ite2 (fun h0 => ?_) (fun h0 => ?_)
          · have h0' : okRow pg ps i1 i2 far r = true := h0
            rw [if_pos h0'] at hft
            refine ⟨_, rfl, .inl ⟨rfl, _, SqL.of hhs19⟩, _, rfl, h, hs', _, rfl, rfl, hhs19, by rw [sizeLine_eq]; omega, ⟨_, rfl⟩, e17'.mut hh16, hs' ++ [x'], upd_same, ?_⟩
            rw [hft]
            exact pd_mono (pd_snoc hphs19 (hv17.mono (mo_ex e19))) fun _ _ h => h.mono (mo_lst hhs19)
          · have h0' : ¬ okRow pg ps i1 i2 far r = true := h0
            rw [if_neg h0', List.append_nil] at hft
            exact ⟨⟨_, rfl⟩, e17', hs', hhs19, by rw [hft]; exact hphs19⟩
      rintro σ H17 ⟨⟨v16, rfl⟩, e17, hhold⟩
      rw [hxl, List.take_length, ← holdP_eq hi12 hi2'] at hhold
      have x17' : ExS a H1 H17 := y16.trans (exs e17)
      have src17 := src16.ex e17
      have hplan17 := hplan16.mono (mo_ex e17)
      have hxs17 := e17 _ _ hxs16
      have hpd17 := pd_mono hpd16 fun _ _ h => h.mono (mo_ex e17)
      clear hd16 hplan16 hxs16 hpd16 x17 hh16 hh
      have hsub : ∀ r ∈ holdP pg ps i1 i2 far, r ∈ rowsP ps := fun r hr => mem_rowsP.mpr (mem_holdP.mp hr).1
      have hol : (holdP pg ps i1 i2 far).length ≤ 60 := Nat.le_trans (List.length_filter_le _ _) hrl
      have rsok : RsOk ps.length (rowsP ps) := ⟨hrl, by omega, by omega, hrlen, fun r hr => rowIn_bd plok (mem_rowsP.mp hr)⟩
      have rshold : RsOk ps.length (holdP pg ps i1 i2 far) := rsok.sub hol hsub
      have rsdue : RsOk ps.length (tops (holdP pg ps i1 i2 far)) := rshold.sub (Nat.le_trans (List.length_filter_le _ _) hol) fun r hr => (mem_tops.mp hr).1
      obtain ⟨hs', hhs, hphs⟩ := hhold
      have hhl := pd_len hphs
      refine ⟨by show 0 ≤ sizeLine; decide, fun u hu' => ?_⟩
      have nua : u ≠ a := (src17.ne hu').symm
      refine ⟨_, rfl, h, rfl, ⟨_, SqL.of (Evl.Ex.new hu' _ _ hhs)⟩, ?_⟩
      refine for_it (walk_list (xs := hs')) (fun i' σ H' => (∃ v16 : Option V, σ = [some (.ref s), some (.int (0 + (i : Int))), some (.ref a), some (.int pg), some (.ref p4), v5, some (.int (i2 : Int)), some (.int (i1 : Int)), some (.ref x), some (.ref q), some (.str (ps.getD i1 default).word), some (.str (ps.getD i2 default).word), some (.ref d), some (.ref l5), some (.int far), some (.ref h), v16, some (.ref u), v18, v19, v20, v21]) ∧ Ex H17 H' ∧ RowsV H' u (((holdP pg ps i1 i2 far).take i').filter (isTop (holdP pg ps i1 i2 far)))) ⟨⟨_, rfl⟩, Evl.Ex.new hu', [], upd_same, .nil⟩ (fun i' σ H' _ q => SqL.of (q.2.1 _ _ hhs)) ?_ ?_
      · rintro i' x' σ H18 H19 hi' ⟨⟨v16, rfl⟩, e18, us, hus, hpus⟩ ⟨rfl, hxx⟩
        have hxx0 : hs'[i']? = some x' := hxx
        obtain ⟨r, hr', hv⟩ := pd_get hphs hxx0
        have hv18 := hv.mono (mo_ex e18)
        have hrm := List.mem_of_getElem? hr'
        have hft := filter_take (f := isTop (holdP pg ps i1 i2 far)) hr'
        have hul := pd_len hpus
        have hfl : (((holdP pg ps i1 i2 far).take i').filter (isTop (holdP pg ps i1 i2 far))).length ≤ 60 := by
          have h1 := List.length_filter_le (isTop (holdP pg ps i1 i2 far)) ((holdP pg ps i1 i2 far).take i')
          rw [List.length_take] at h1
          omega
        refine ⟨_, rfl, h, rfl, ⟨_, SqL.of (e18 _ _ hhs)⟩, fun p5 hp5 => ?_⟩
        refine lc_pure (walk_list (xs := hs')) hp5 (by rw [sizeLine_eq]; omega) (fun j acc _ => acc = (((holdP pg ps i1 i2 far).take j).map fun o => !decide (r = o) && below r o).map V.bl) (fun _ _ _ _ _ q => q) (fun H' e => SqL.of (e _ _ (e18 _ _ hhs))) rfl ?_ ?_
        · rintro j y H20 H21 acc Kt K0 hj e20 hacc ⟨rfl, hy⟩ k1 _
          have hy0 : hs'[j]? = some y := hy
          obtain ⟨o, ho, hvo⟩ := pd_get hphs hy0
          have hom := List.mem_of_getElem? ho
          have e18' := e18.trans e20
          have hvo20 := hvo.mono (mo_ex e18')
          have hv20 := hv.mono (mo_ex e18')
          have fin : ∀ H5, Ex H21 H5 → Kt (.bl (!decide (r = o) && below r o)) H5 := fun H5 e5 => by
            refine k1 _ _ e5 ?_
            rw [take_snoc ho, List.map_append, hacc]
            rfl
          refine ⟨rfl, yes_ ⟨_, rfl, _, rfl, _, _, dp_row hvo20, dp_row hv20, shaped_row _, shaped_row _, _, rfl, ?_⟩⟩
          rw [eqv_row]
          by_cases e : r = o
          · rw [decide_eq_true e.symm]
            refine iteF_ (by simp) ?_
            rw [decide_eq_true e] at fin
            exact fin _ (Evl.Ex.refl _)
          · rw [decide_eq_false fun z => e z.symm]
            refine iteT_ (by simp) ?_
            rw [decide_eq_false e] at fin
            exact ⟨_, rfl, _, rfl, x', y, r, o, rfl, hv20, hvo20, (rshold.len _ hrm).trans (rshold.len _ hom).symm, by rw [rshold.len _ hrm]; omega, fun H5 e5 => fin H5 e5⟩
        · intro acc H20 e20 hacc ha'
          rw [hhl, List.take_length] at ha'
          have e18' := e18.trans e20
          have hus20 := e20 _ _ hus
          have hpus20 := pd_mono hpus fun _ _ h => h.mono (mo_ex e20)
          refine ⟨p5, _, rfl, SqL.of (by rw [hacc, ha']), _, rfl, ?_⟩
          have ea : (((holdP pg ps i1 i2 far).map fun o => !decide (r = o) && below r o).any id) = !isTop (holdP pg ps i1 i2 far) r := by
            unfold isTop
            rw [Bool.not_not, List.any_map]
            rfl
          rw [ea]
          dsimp only
          rw [Bool.not_not]
          refine ite2 (fun h0 => ?_) (fun h0 => ?_)
          · rw [if_pos h0] at hft
            refine ⟨_, rfl, .inl ⟨rfl, _, SqL.of hus20⟩, _, rfl, u, us, _, rfl, rfl, hus20, by rw [sizeLine_eq]; omega, ⟨_, rfl⟩, e18'.mut hu', us ++ [x'], upd_same, ?_⟩
            rw [hft]
            exact pd_mono (pd_snoc hpus20 (hv18.mono (mo_ex e20))) fun _ _ h => h.mono (mo_lst hus20)
          · rw [if_neg h0, List.append_nil] at hft
            exact ⟨⟨_, rfl⟩, e18', us, hus20, by rw [hft]; exact hpus20⟩
      rintro σ H18 ⟨⟨v16, rfl⟩, e18, hdue⟩
      rw [hhl, List.take_length] at hdue
      have hdue : RowsV H18 u (tops (holdP pg ps i1 i2 far)) := hdue
      -- the greatest bounds, twice
      refine ⟨_, rfl, _, rfl, _, rfl, _, rfl, .ref x, pg, ps, i1, i2, far, rfl, hplan17.mono (mo_ex e18), plok, two, zok, fun p5 H19 out1 hp5 e19 hr19 hperm1 hsrt1 => ?_⟩
      obtain ⟨o5, ho5, hpo5⟩ := hr19
      have hol5 := pd_len hpo5
      have hol6 := hperm1.length_eq
      have htl := rsdue.few
      refine ⟨.inl ⟨rfl, _, SqL.of ho5⟩, p5, o5, _, rfl, rfl, ho5, by rw [sizeLine_eq]; omega, ?_⟩
      have e20 : Ex H18 (upd H19 p5 (.lst (o5 ++ [V.str "late"]))) := e19.mut hp5
      generalize upd H19 p5 (.lst (o5 ++ [V.str "late"])) = H20 at e20 ⊢
      have e1820 := e18.trans e20
      refine ⟨_, rfl, _, rfl, _, rfl, _, rfl, .ref x, pg, ps, i1, i2, far, rfl, hplan17.mono (mo_ex e1820), plok, two, zok, fun p6 H21 out2 hp6 e21 hr21 hperm2 hsrt2 => ?_⟩
      have e2021 := e20.trans e21
      refine ⟨_, rfl, ?_⟩
      dsimp only [tNil]
      refine ⟨ps.length, by omega, rSort_rows (K := K) (hdue.mono e2021) rsdue fun p7 out3 hp7 ys hys hperm3 hsrt3 => ?_⟩
      have e22 := Evl.Ex.new (o := .lst ys) hp7
      have hys7 : (upd H21 p7 (.lst ys)) p7 = some (.lst ys) := upd_same
      have hr22 := hr21.mono e22
      generalize upd H21 p7 (.lst ys) = H22 at e22 hys7 hr22 hys ⊢
      have eout : out2 = out3 := srt_eq (n := ps.length) (hperm2.trans hperm3.symm) (rsdue.sub (by rw [hperm2.length_eq]; exact htl) fun r hr => hperm2.mem_iff.mp hr) hsrt2 hsrt3
      subst eout
      refine ⟨p6, p7, out2, rfl, hr22, ⟨ys, hys7, hys⟩, by rw [hperm2.length_eq]; exact htl, fun r hr => ?_, fun H23 e23 => ⟨_, rfl, iteF_ (by simp) ?_⟩⟩
      · rw [rsdue.len r (hperm2.mem_iff.mp hr)]
        omega
      have e1823 := (e2021.trans e22).trans e23
      have e1723 := e18.trans e1823
      have hplan23 := hplan17.mono (mo_ex e1723)
      have hxs23 := e1723 _ _ hxs17
      have hpd23 := pd_mono hpd17 fun _ _ h => h.mono (mo_ex e1723)
      have hhs23 := e1723 _ _ hhs
      have hphs23 := pd_mono hphs fun _ _ h => h.mono (mo_ex e1723)
      have hdue23 := hdue.mono e1823
      have src23 := src17.ex e1723
      have x23 := x17'.trans (exs e1723)
      clear hplan17 hxs17 hpd17 hhs hphs hdue src17 x17' hys hys7 hr22 hr21 hpo5 ho5 e20 e21 e22 e23 e2021 e1820 e1823 e1723 e18 e17 e19
      refine ⟨_, rfl, by decide, by decide, ?_⟩
      refine for_range (lo := 0) (n := 4) (fun i' σ H' => (∃ v16 v18 v19 : Option V, σ = [some (.ref s), some (.int (0 + (i : Int))), some (.ref a), some (.int pg), some (.ref p4), v5, some (.int (i2 : Int)), some (.int (i1 : Int)), some (.ref x), some (.ref q), some (.str (ps.getD i1 default).word), some (.str (ps.getD i2 default).word), some (.ref d), some (.ref l5), some (.int far), some (.ref h), v16, some (.ref u), v18, v19, v20, v21]) ∧ ExS a H23 H' ∧ Src (1000 + 10 * i') H' a) ⟨⟨_, _, _, rfl⟩, ExS.refl _ _, src23.weak (by omega)⟩ ?_ ?_
      · rintro i' σ H24 hi' ⟨⟨v16, v18, v19, rfl⟩, e24, src24⟩
        have hxs24 := e24 _ _ nqa hxs23
        refine ⟨_, rfl, _, rfl, a, q, _, _, rfl, hxs24, nqa, by omega, by omega, src24, by omega, fun H25 y hy e25 src25 => ?_⟩
        obtain ⟨r, hrm, hv⟩ := pd_mem hpd23 hy
        have hri := mem_rowsP.mp hrm
        have e2325 := e24.trans e25
        obtain ⟨b, rfl, hb⟩ := hv.mono (mo_s src23 e2325)
        refine ⟨_, rfl, _, rfl, _, rfl, b, _, rfl, .inr (SqT.of hb), fun l7 hl7 => ⟨a, l7, _, r, rfl, upd_same, (src25.ne hl7).symm, by rw [hri.1]; omega, src25.ex (Evl.Ex.new hl7), by omega, fun zv H26 hzv e26 src26 => ?_⟩⟩
        have e2326 := (e2325.trans (exs (Evl.Ex.new hl7))).trans e26
        refine ⟨_, rfl, _, rfl, _, rfl, .ref x, zv, pg, ps, i1, i2, r, far, rfl, hplan23.mono (mo_s src23 e2326), plok, two, hzv, hri, fun tb htb H27 e27 => ?_⟩
        have e2327 := e2326.trans (exs e27)
        have src27 := src26.ex e27
        have hhs27 := e2327 _ _ nha hhs23
        have hphs27 := pd_mono hphs23 fun _ _ h => h.mono (mo_s src23 e2327)
        have hv27 := hv.mono (mo_s src23 e2327)
        have ein : decide (r ∈ holdP pg ps i1 i2 far) = tb := by
          rw [Bool.eq_iff_iff, htb, decide_eq_true_eq, mem_holdP]
          exact ⟨fun z => z.2, fun z => ⟨hri, z⟩⟩
        refine ⟨_, rfl, _, rfl, _, rfl, pdRow r, (holdP pg ps i1 i2 far).map pdRow, dp_row hv27, .lst (SqL.of hhs27) (dpAll_rows hphs27), shaped_row r, shaped_rows _, ?_⟩
        rw [any_rows, ein]
        refine ⟨.bl tb, rfl, .inr ⟨tb, rfl⟩, fun H28 e28 => ⟨_, rfl, iteF_ (by simp) ?_⟩⟩
        have e2328 := e2327.trans (exs e28)
        have src28 := src27.ex e28
        obtain ⟨us, hus, hpus⟩ := hdue23.exs src23 e2328 nua
        have hul := pd_len hpus
        have hv28 := hv27.mono (mo_ex e28)
        refine ⟨_, rfl, _, rfl, u, rfl, ⟨_, SqL.of hus⟩, fun p8 hp8 => ?_⟩
        refine lc_pure (walk_list (xs := us)) hp8 (by rw [sizeLine_eq]; omega) (fun j acc _ => acc = (((tops (holdP pg ps i1 i2 far)).take j).map fun o => below r o).map V.bl) (fun _ _ _ _ _ q => q) (fun H' e => SqL.of (e _ _ hus)) rfl ?_ ?_
        · rintro j y H29 H30 acc Kt K0 hj e29 hacc ⟨rfl, hy'⟩ k1 _
          have hy0 : us[j]? = some y := hy'
          obtain ⟨o, ho, hvo⟩ := pd_get hpus hy0
          have hom := List.mem_of_getElem? ho
          refine ⟨rfl, yes_ ⟨_, rfl, _, rfl, .ref b, y, r, o, rfl, hv28.mono (mo_ex e29), hvo.mono (mo_ex e29), hri.1.trans (rsdue.len _ hom).symm, by rw [hri.1]; omega, fun H31 e31 => k1 _ _ e31 ?_⟩⟩
          rw [take_snoc ho, List.map_append, hacc]
          rfl
        · intro acc H29 e29 hacc ha'
          rw [hul, List.take_length] at ha'
          refine ⟨p8, _, rfl, SqL.of (by rw [hacc, ha']), rfl, _, rfl, iteF_ ?_ ?_⟩
          · have ea : (((tops (holdP pg ps i1 i2 far)).map fun o => below r o).any id) = tb := by
              rw [Bool.eq_iff_iff, htb, List.any_map]
              exact hold_any hi12 hi2' hri
            rw [ea]
            simp
          · exact ⟨⟨_, _, _, rfl⟩, e2328.trans (exs e29), (src28.ex e29).weak (by omega)⟩
      · rintro σ H24 ⟨⟨v16, v18, v19, rfl⟩, e24, src24⟩
        exact ⟨⟨_, _, _, _, _, _, _, _, _, _, _, _, _, _, _, _, _, _, _, _, _, rfl⟩, e01.trans (ex_of ha (x23.trans e24))⟩
end
end Lk
/-! the head: what the top leaves, by one run in the kernel -/
namespace Lk
open PySem PySem.Spec PyProof.Rows L2
/-! ### a hook with one more test -/
abbrev AlF : Type := He.AlD × Bool
def obsF (n : Nat) (fa : List He.Fa) (fn : List He.DefD) (ex : PySem.W.Frag → Bool) (g : Addr → Option Obj) : AlF := (He.obsDG n fa fn g, ex (He.frG g (He.asD g n)))
def hookF (n : Nat) (fa : List He.Fa) (fn : List He.DefD) (ex : PySem.W.Frag → Bool) : PySem.W.Hook where
  α := AlF
  obs := fun s => obsF n fa fn ex s.heap.get?
  val := fun _ => (He.valD fn, true)
  says := fun _ h => ∃ K : PySem.W.Frag, K.In h ∧ He.SaysD fa fn K ∧ ex K = true
  of := fun _ _ e => ⟨_, He.frG_in, congrArg (fun z : AlF => z.1) e, congrArg (fun z : AlF => z.2) e⟩
  keeps := fun _ _ _ ⟨K, hK, c⟩ k => ⟨K, PySem.W.Frag.In.keeps hK k, c⟩
theorem obsF_eq {n : Nat} {fa : List He.Fa} {fn : List He.DefD} {ex : PySem.W.Frag → Bool} {g : Addr → Option Obj} {s : Shared} (h : ∀ a, g a = s.heap.get? a) : obsF n fa fn ex g = (hookF n fa fn ex).obs s := by
  have e : g = s.heap.get? := funext h
  rw [e] <;> rfl
def dd (x : Str) (st : Stmt) : He.DefD := ⟨(x, none), x, x, defArgs st, defBody st, defScope st, [], []⟩
def dInit : He.DefD := ⟨("Plan", some "__init__"), "__init__", "Plan.__init__", defArgs s_Plan, defBody s_Plan, defScope s_Plan, [], []⟩
def fn : List He.DefD := [
  dd "is_integer" s_is_integer,
  dd "is_natural" s_is_natural,
  dd "is_list" s_is_list,
  dd "is_word" s_is_word,
  dd "is_part" s_is_part,
  dd "checked_sizes" s_checked_sizes,
  dd "lifted" s_lifted,
  dd "lowest" s_lowest,
  dd "number_of" s_number_of,
  dd "checked_two" s_checked_two,
  dd "checked_far" s_checked_far,
  dd "leasts" s_leasts,
  dd "mosts" s_mosts,
  dd "rests_at" s_rests_at,
  dd "address_behind" s_address_behind,
  dd "reach_at_most" s_reach_at_most,
  dd "bounds_hold" s_bounds_hold,
  dd "rows_between" s_rows_between,
  dd "is_within" s_is_within,
  dd "greatest_rows" s_greatest_rows,
  dd "greatest_bounds" s_greatest_bounds,
  dd "_law_source" s_law_source,
  dd "_law_draw" s_law_draw,
  dd "_law_pick" s_law_pick,
  dd "_law_mixed" s_law_mixed,
  dd "_law_loose" s_law_loose,
  dd "_law_same" s_law_same,
  dd "_law_parts" s_law_parts,
  dd "_law_lowest" s_law_lowest,
  dd "_law_addresses" s_law_addresses,
  dd "_law_rows" s_law_rows,
  dd "_law_all_sizes" s_law_all_sizes,
  dd "_law_few" s_law_few,
  dd "_law_is_below" s_law_is_below,
  dd "_law_reach" s_law_reach,
  dd "law" s_law,
  dInit]
def fa : List He.Fa := [
  .glo "is_integer", .glo "is_natural", .glo "is_list", .glo "is_word", .glo "is_part", .glo "checked_sizes", .glo "lifted", .glo "lowest", .glo "number_of", .glo "checked_two", .glo "checked_far", .glo "leasts", .glo "mosts", .glo "rests_at", .glo "address_behind", .glo "reach_at_most", .glo "bounds_hold", .glo "rows_between", .glo "is_within", .glo "greatest_rows", .glo "greatest_bounds", .glo "_law_source", .glo "_law_draw", .glo "_law_pick", .glo "_law_mixed", .glo "_law_loose", .glo "_law_same", .glo "_law_parts", .glo "_law_lowest", .glo "_law_addresses", .glo "_law_rows", .glo "_law_all_sizes", .glo "_law_few", .glo "_law_is_below", .glo "_law_reach", .glo "law",
  .free "len", .free "isinstance", .free "all", .free "any", .free "min", .free "max", .free "sum", .free "sorted", .free "int", .free "bool", .free "str", .free "list", .free "tuple", .free "dict", .free "range", .free "enumerate", .free "zip",
  .str "LETTERS" "abcdefghijklmnopqrstuvwxyz", .glo "RIGHTS", .glo "ALIGNS", .glo "PAGES", .glo "Plan", .cls "Plan", .noat "Plan" "kept_page", .noat "Plan" "kept_parts", .mkr "Plan"]
def ex (K : PySem.W.Frag) : Bool := He.tupB K "RIGHTS" [.str "r", .str "rw", .str "rx"] && (He.tupB K "ALIGNS" [.int 1, .int 2, .int 4, .int 8, .int 16, .int 32, .int 64] && He.tupB K "PAGES" [.int 8, .int 16, .int 32, .int 64])
abbrev R : PySem.W.OpenRow := PySem.W.OpenLaw.row PySem.Challenge.rw_linklines_k70_whole_bounds
abbrev hk : PySem.W.Hook := hookF 5 fa fn ex
def ob (s : PySem.W.SharedT) : AlF := obsF 5 fa fn ex (HandSHeadRun.getT s)
theorem ob_eq (s : PySem.W.SharedT) : ob s = hk.obs s.abs := obsF_eq (HandSHeadRun.getT_eq s)
def names1 : List PySem.Str := ["LETTERS", "is_integer", "is_natural", "is_list", "is_word", "LinkError", "BadPage", "BadPart", "BadSizes", "NoPart", "NotBehind", "BadFar", "RIGHTS", "ALIGNS", "PAGES", "is_part", "Plan", "checked_sizes", "lifted", "lowest", "number_of", "checked_two", "checked_far", "leasts", "mosts", "rests_at", "address_behind", "reach_at_most", "bounds_hold", "rows_between"]
def names2 : List PySem.Str := ["is_within", "greatest_rows", "greatest_bounds", "_law_source", "_law_draw", "_law_pick", "_law_mixed", "_law_loose", "_law_same", "_law_parts", "_law_lowest", "_law_addresses", "_law_rows", "_law_all_sizes", "_law_few", "_law_is_below", "_law_reach"]
def names : List PySem.Str := names1 ++ names2
theorem run (w : World) : HandSHeadRun.RunEq R (PySem.W.view R.prog [52]) hk ob 6000 names w := by
  intro os
  kernel_rfl
end Lk
namespace Lk
open PySem PySem.Spec PyProof.Rows L2
theorem dn_of {h : Heap} {mg : Str → Option Value} {K : PySem.W.Frag} (X : K.In h) (G : h.Ns mainGlobals mg) (c : He.SaysD fa fn K) (i j : Nat) {x : Str} {st : Stmt} (h1 : fn[i]? = some (dd x st)) (h2 : fa[j]? = some (.glo x)) : Dn K mg x st := by
  obtain ⟨fd, F⟩ := c.def_ i h1
  exact ⟨_, fd, F, He.glo_ok X G (c.fact j h2)⟩
theorem txt_of {h : Heap} {mg : Str → Option Value} {K : PySem.W.Frag} (X : K.In h) (G : h.Ns mainGlobals mg) (c : He.SaysD fa fn K) (e : ex K = true) : Txt K mg (He.ga K "Plan") (He.ga K "RIGHTS") (He.ga K "ALIGNS") (He.ga K "PAGES") := by
  obtain ⟨t, et⟩ := He.str_ok X G (c.fact 53 (f := .str "LETTERS" "abcdefghijklmnopqrstuvwxyz") rfl)
  obtain ⟨e1, e2⟩ := He.ba e
  obtain ⟨e2, e3⟩ := He.ba e2
  exact {
    len := He.free_ok X G (c.fact 36 (f := .free "len") rfl)
    isinstance := He.free_ok X G (c.fact 37 (f := .free "isinstance") rfl)
    all := He.free_ok X G (c.fact 38 (f := .free "all") rfl)
    any := He.free_ok X G (c.fact 39 (f := .free "any") rfl)
    min := He.free_ok X G (c.fact 40 (f := .free "min") rfl)
    max := He.free_ok X G (c.fact 41 (f := .free "max") rfl)
    sum := He.free_ok X G (c.fact 42 (f := .free "sum") rfl)
    sorted := He.free_ok X G (c.fact 43 (f := .free "sorted") rfl)
    int := He.free_ok X G (c.fact 44 (f := .free "int") rfl)
    bool := He.free_ok X G (c.fact 45 (f := .free "bool") rfl)
    str := He.free_ok X G (c.fact 46 (f := .free "str") rfl)
    list := He.free_ok X G (c.fact 47 (f := .free "list") rfl)
    tuple := He.free_ok X G (c.fact 48 (f := .free "tuple") rfl)
    dict := He.free_ok X G (c.fact 49 (f := .free "dict") rfl)
    range := He.free_ok X G (c.fact 50 (f := .free "range") rfl)
    enumerate := He.free_ok X G (c.fact 51 (f := .free "enumerate") rfl)
    zip := He.free_ok X G (c.fact 52 (f := .free "zip") rfl)
    LETTERS := ⟨_, et, ⟨t, rfl⟩⟩
    RIGHTS := ⟨_, He.glo_ok X G (c.fact 54 (f := .glo "RIGHTS") rfl), rfl⟩
    ALIGNS := ⟨_, He.glo_ok X G (c.fact 55 (f := .glo "ALIGNS") rfl), rfl⟩
    PAGES := ⟨_, He.glo_ok X G (c.fact 56 (f := .glo "PAGES") rfl), rfl⟩
    tR := fun H => He.tupB_ok e1 H
    tA := fun H => He.tupB_ok e2 H
    tP := fun H => He.tupB_ok e3 H
    cl := He.cls_ok (c.fact 58 (f := .cls "Plan") rfl)
    nP := He.noat_ok (c.fact 59 (f := .noat "Plan" "kept_page") rfl)
    nQ := He.noat_ok (c.fact 60 (f := .noat "Plan" "kept_parts") rfl)
    Plan := He.glo_ok X G (c.fact 57 (f := .glo "Plan") rfl) }
theorem facts {P : Program} {w : World} {K : PySem.W.Frag} {h : Heap} {mg : Str → Option Value} {f : Addr} (X : K.In h) (G : h.Ns mainGlobals mg) (hfa : mg ("law" : Str) = some (.ref f)) (c : He.SaysD fa fn K) (e : ex K = true) :
    ∃ fd : FuncData, (∀ (s : Shared) (v : Value), BindsTo s fd ⟨[v], []⟩ [("_law_script", v)]) ∧ ∀ base : Heap, K.In base → base.Ns mainGlobals mg → FnOk P w K mg base CX0 6 f fd ["_law_script"] (sp_law K) := by
  have T := txt_of X G c e
  obtain ⟨fd, F⟩ := c.def_ 35 (d := dd "law" s_law) rfl
  obtain ⟨fdi, Fi⟩ := c.def_ 36 (d := dInit) rfl
  have M := He.mkr_ok (c.fact 61 (f := .mkr "Plan") rfl)
  have ef := hfa.symm.trans (He.glo_ok X G (c.fact 35 (f := .glo "law") rfl))
  cases ef
  have b := FunD.bindsA (ps := ["_law_script"]) F fun _ _ _ _ _ _ us hl => match us, hl with | [_], _ => rfl
  have bi : Binds K fdi ["self", "page", "parts"] [] := Fi.bindsN fun _ _ _ _ _ _ us hl => match us, hl with | [_, _, _], _ => rfl
  refine ⟨fd, fun s v => b s [v] rfl, fun base _ _ => ?_⟩
  have c_is_integer : Cal P w K mg base 1 "is_integer" sp_is_integer := ok_is_integer T (dn_of X G c 0 0 rfl rfl)
  have c_is_natural : Cal P w K mg base 2 "is_natural" sp_is_natural := ok_is_natural (dn_of X G c 1 1 rfl rfl) c_is_integer
  have c_is_list : Cal P w K mg base 1 "is_list" sp_is_list := ok_is_list T (dn_of X G c 2 2 rfl rfl)
  have c_is_word : Cal P w K mg base 1 "is_word" sp_is_word := ok_is_word T (dn_of X G c 3 3 rfl rfl)
  have c_lifted : Cal P w K mg base 1 "lifted" sp_lifted := ok_lifted (dn_of X G c 6 6 rfl rfl)
  have c_lowest : Cal P w K mg base 2 "lowest" (sp_lowest (He.ga K "Plan")) := ok_lowest T (dn_of X G c 7 7 rfl rfl) c_lifted
  have c_number_of : Cal P w K mg base 2 "number_of" (sp_number_of (He.ga K "Plan")) := ok_number_of T (dn_of X G c 8 8 rfl rfl) c_is_word
  have c_checked_two : Cal P w K mg base 3 "checked_two" (sp_checked_two (He.ga K "Plan")) := ok_checked_two (dn_of X G c 9 9 rfl rfl) c_number_of
  have c_checked_far : Cal P w K mg base 2 "checked_far" sp_checked_far := ok_checked_far (dn_of X G c 10 10 rfl rfl) c_is_integer
  have c_leasts : Cal P w K mg base 1 "leasts" (sp_col (He.ga K "Plan") Part.least) := ok_leasts T (dn_of X G c 11 11 rfl rfl)
  have c_mosts : Cal P w K mg base 1 "mosts" (sp_col (He.ga K "Plan") Part.most) := ok_mosts T (dn_of X G c 12 12 rfl rfl)
  have c_address_behind : Cal P w K mg base 3 "address_behind" (sp_address_behind (He.ga K "Plan")) := ok_address_behind T (dn_of X G c 14 14 rfl rfl) c_lowest
  have c_checked_sizes : Cal P w K mg base 2 "checked_sizes" (sp_checked_sizes (He.ga K "Plan")) := ok_checked_sizes T (dn_of X G c 5 5 rfl rfl) c_is_list c_is_integer
  have c_rests_at : Cal P w K mg base 3 "rests_at" (sp_rests_at (He.ga K "Plan")) := ok_rests_at T (dn_of X G c 13 13 rfl rfl) c_lowest
  have c_reach_at_most : Cal P w K mg base 4 "reach_at_most" (sp_reach_at_most (He.ga K "Plan")) := ok_reach_at_most T (dn_of X G c 15 15 rfl rfl) c_rests_at c_address_behind
  have c_bounds_hold : Cal P w K mg base 5 "bounds_hold" (sp_bounds_hold (He.ga K "Plan")) := ok_bounds_hold T (dn_of X G c 16 16 rfl rfl) c_checked_sizes c_checked_two c_reach_at_most c_checked_far
  have c_is_within : Cal P w K mg base 1 "is_within" sp_below := ok_is_within T (dn_of X G c 18 18 rfl rfl)
  have c_law_is_below : Cal P w K mg base 1 "_law_is_below" sp_below := ok_law_is_below T (dn_of X G c 33 33 rfl rfl)
  have c_rows_between : Cal P w K mg base 1 "rows_between" sp_rows := ok_rows_between T (dn_of X G c 17 17 rfl rfl)
  have c_law_rows : Cal P w K mg base 1 "_law_rows" sp_rows := ok_law_rows T (dn_of X G c 30 30 rfl rfl)
  have c_greatest_rows : Cal P w K mg base 2 "greatest_rows" sp_greatest_rows := ok_greatest_rows T (dn_of X G c 19 19 rfl rfl) c_is_within
  have c_greatest_bounds : Cal P w K mg base 5 "greatest_bounds" (sp_greatest_bounds (He.ga K "Plan")) := ok_greatest_bounds T (dn_of X G c 20 20 rfl rfl) c_checked_two c_checked_far c_leasts c_mosts c_rows_between c_reach_at_most c_greatest_rows
  have c_law_draw : Cal P w K mg base 1 "_law_draw" sp_draw := ok_law_draw T (dn_of X G c 22 22 rfl rfl)
  have c_law_pick : Cal P w K mg base 2 "_law_pick" sp_pick := ok_law_pick T (dn_of X G c 23 23 rfl rfl) c_law_draw
  have c_law_mixed : Cal P w K mg base 2 "_law_mixed" sp_mixed := ok_law_mixed T (dn_of X G c 24 24 rfl rfl) c_law_draw
  have c_law_loose0 : Cal P w K mg base 1 "_law_loose" sp_loose0 := ok_law_loose0 T (dn_of X G c 25 25 rfl rfl)
  have c_law_loose : Cal P w K mg base 2 "_law_loose" sp_loose := ok_law_loose T (dn_of X G c 25 25 rfl rfl) c_law_loose0 c_law_draw
  have c_law_same0 : Cal P w K mg base 1 "_law_same" sp_same0 := ok_law_same0 T (dn_of X G c 26 26 rfl rfl)
  have c_law_same1 : Cal P w K mg base 2 "_law_same" sp_same1 := ok_law_same1 T (dn_of X G c 26 26 rfl rfl) c_law_same0
  have c_law_same2 : Cal P w K mg base 3 "_law_same" sp_same2 := ok_law_same2 T (dn_of X G c 26 26 rfl rfl) c_law_same1
  have c_law_lowest : Cal P w K mg base 1 "_law_lowest" sp_law_lowest := ok_law_lowest T (dn_of X G c 28 28 rfl rfl)
  have c_law_addresses : Cal P w K mg base 2 "_law_addresses" sp_law_addresses := ok_law_addresses T (dn_of X G c 29 29 rfl rfl) c_law_lowest
  have c_law_reach : Cal P w K mg base 3 "_law_reach" sp_law_reach := ok_law_reach (dn_of X G c 34 34 rfl rfl) c_law_addresses
  have c_law_all_sizes : Cal P w K mg base 2 "_law_all_sizes" sp_law_all_sizes := ok_law_all_sizes (dn_of X G c 31 31 rfl rfl) c_law_rows
  have c_law_parts : Cal P w K mg base 3 "_law_parts" sp_law_parts := ok_law_parts T (dn_of X G c 27 27 rfl rfl) c_law_mixed c_law_pick c_law_draw
  have c_law_few : Cal P w K mg base 4 "_law_few" sp_law_few := ok_law_few T (dn_of X G c 32 32 rfl rfl) c_law_parts c_law_pick c_law_draw
  have c_law_source : Cal P w K mg base 1 "_law_source" (sp_law_source K) := ok_law_source T (dn_of X G c 21 21 rfl rfl)
  have c_is_part : Cal P w K mg base 3 "is_part" sp_is_part := ok_is_part T (dn_of X G c 4 4 rfl rfl) c_is_list c_is_word c_is_integer c_is_natural
  have Fp := ok_init (base := base) (P := P) (w := w) T Fi c_is_list c_is_integer c_is_part
  exact ok_law T F M Fp bi c_law_source c_law_few c_law_pick c_law_draw c_law_all_sizes c_law_reach c_law_is_below c_greatest_bounds c_law_same2 c_law_same0 c_bounds_hold c_law_loose
end Lk
open PySem PySem.W PySem.Calls PyProof.Rows
theorem PySem.Challenge.cw_linklines_k70_whole_bounds_holds : PySem.Challenge.rw_linklines_k70_whole_bounds.Holds := by
  w_on; o_law
  refine HandSHeadRun.head_any (r := OpenLaw.row PySem.Challenge.rw_linklines_k70_whole_bounds) (q := view (OpenLaw.row PySem.Challenge.rw_linklines_k70_whole_bounds).prog [52]) (H := Lk.hk) (ob := Lk.ob) (M := 6000) (loose := Lk.names) (d := HandSHeadRun.topDef (OpenLaw.row PySem.Challenge.rw_linklines_k70_whole_bounds).prog 52) (kwd := []) Lk.ob_eq
    (by kernel_rfl) (fun s => by kernel_rfl) Lk.run (by kernel_rfl) (by kernel_rfl) (by kernel_rfl) (by rfl) (by first | assumption | decide +kernel) (by decide +kernel) ⟨rfl, rfl, rfl, rfl, rfl, by decide +kernel⟩ ?hw ?hc
  case hw => w_witness2
  case hc =>
    refine L2.walk_ofE (l := PySem.Challenge.rw_linklines_k70_whole_bounds) (n := 63) (k := 6) (x := "_law_script") (CX := L2.CX0) rfl (by decide) (by kernel_rfl) ⟨rfl, by decide, by decide⟩ ?F (fun _ _ _ _ z => z)
    intro w mg fa h Y G hmg0
    obtain ⟨K, KX, c, e⟩ := Y
    have hmg : mg ("law" : PySem.Str) = some (.ref fa) := by
      have e : (HandSHeadRun.topDef (OpenLaw.row PySem.Challenge.rw_linklines_k70_whole_bounds).prog 52).name = ("law" : PySem.Str) := by kernel_rfl
      rw [← e]
      exact hmg0
    obtain ⟨fd, hb, hF⟩ := Lk.facts (P := (PySem.Challenge.rw_linklines_k70_whole_bounds).prog) (w := w) KX G hmg c e
    exact ⟨K, fd, Lk.sp_law K, KX, hb, fun H a ns hl _ hS => ⟨a, ns, rfl, hS, hl, fun _ => rfl⟩, hF⟩
