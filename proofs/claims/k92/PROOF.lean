import PyProof.Rows.All
import Wide.All
import OpenK.AllK
import Wide.FinOn
import HandS.RevTup
import HandS.Rev
import PyProof.FactsAll.subtypes_3
import PyProof.StrOps
import HandS.List
import PyProof.WalkInts
import HandS.ForMost
import KE.SortData
import HandS.Exc
import HandS.Wide
import HandS.Style
import HandS.TupAny
import HandS.SortInts
import HandS.DictComp
import HandS.IsInst
import HandS.WideBits
import HandS.WordsDict
import HandS.TupLen
import HandS.Flt
import HandS.SortRule
import HandS.Iter
import KE.GoesEnum
import HandS.Text
import PyProof.Rows.StrRev
import PyProof.SliceStr2
import HandS.CallSlots
import HandS.ExcInit
import HandS.Conv
import PyProof.ListStr
import HandS.Replace
import HandS.Nested
import KE.KExcSuper
import KE.KSuper
import KE.KExcIs
import HandS.Comp
import HandS.Zip
import KE.KDictDisplayH
import HandS.Small
import HandS.More
import HandS.Dict
import PyProof.ReprLen
import PySem.Challenge.RW_scrapstory_k92_rings_and_mirrors_refused
set_option Elab.async false
set_option linter.all false
set_option maxRecDepth 100000
set_option maxHeartbeats 4000000
/-! reversed(a text): its iterator, its turns; reversed(x), x a list or a text -/
namespace RVS
open PySem PySem.Spec PyProof.Rows L2 RT
theorem norev_str : typeLookup (.type "str") "__reversed__" = pure none := by rw [typeLookup_type, builtinLookup_eq_fast]; kernel_rfl
theorem get_str : typeLookup (.type "str") "__getitem__" = pure (some (.builtin "str.__getitem__")) := by rw [typeLookup_type, builtinLookup_eq_fast]; kernel_rfl
def rsObj (v : Value) (i : Int) : Obj := { cls := .type "reversed", data := .fields #[v, rawInt i] }
def IsRs (h : Heap) (a : Addr) (v : Value) (i : Int) : Prop := ∃ o, h.get? a = some o ∧ o.cls = .type "reversed" ∧ o.data = .fields #[v, rawInt i]
theorem IsRs.at {h h' : Heap} {a : Addr} {v : Value} {i : Int} (x : IsRs h a v i) (e : ∀ o, h.get? a = some o → h'.get? a = some o) : IsRs h' a v i := let ⟨o, ho, r⟩ := x; ⟨o, e _ ho, r⟩
section
variable {prog : Program} {w : World} {A : Around} {E : Value → Shared → Prop} {s : Shared} {x : Str} {t : Tok}
theorem IsRs.typeIs {a : Addr} {v : Value} {i : Int} (x : IsRs s.heap a v i) : s.TypeIs (.ref a) "reversed" := let ⟨o, ho, hc, _⟩ := x; ⟨o, ho, hc⟩
theorem code_reversed_str {Q₁ : Value → Shared → Prop} (hn : ¬ (x.length : Int) ≥ 2 ^ 63)
    (h : Q₁ (.ref s.heap.objs.size) { s with heap := s.heap.push (rsObj (.str x t) ((x.length : Int) - 1)), toks := s.toks + 1 + 1 }) :
    codeAny (model prog w) A (.call (.builtin "reversed.__new__") ⟨[.type "reversed", .str x t], []⟩) (wants Q₁ E) s := by
  have hT : s.TypeIs (.str x t) "str" := typeIs_str s x t
  refine codeAny_of_tree ?_
  show wpAny _ A.in1 (do checkBuiltinCall "reversed.__new__" ⟨[.type "reversed", .str x t], []⟩; again (.builtin "reversed.__new__" ⟨[.type "reversed", .str x t], []⟩)) _ _ s
  refine wpAny_bind (wpAny_of_eq (F.newCall_reversed_1 _) (wpAny_pure ⟨plainId_quiet F.plain_reversed_new _, codeAny_builtin F.entry_reversed_new ?_⟩))
  rw [Around.under_plainId F.plain_reversed_new _]
  unfold Builtin.«reversed.__new__»
  refine wpAny_bind (wpAny_of_eq (newClass_reversed _) ?_)
  try dsimp only
  refine wpAny_bind (wpAny_of_eq (a := ()) (by first | rfl | kernel_rfl) ?_)
  try dsimp only
  refine wpAny_bind (wpAny_of_eq (a := ()) (by first | rfl | kernel_rfl) ?_)
  try dsimp only
  refine wpAny_bind (wpAny_specialOf hT norev_str ?_)
  try dsimp only
  refine wpAny_bind ?_
  wp_delta
  refine wpAny_bind (wpAny_isInstance (T := "str") (U := "dict") (b := false) hT PySem.F.sub_str_dict ?_)
  try dsimp only
  try rw [if_neg Bool.false_ne_true]
  try dsimp only
  refine wpAny_bind (wpAny_specialOf hT get_str ?_)
  try dsimp only
  try rw [if_pos (by decide +kernel)]
  refine wpAny_pure ?_
  try dsimp only
  try rw [if_neg (by decide)]
  try dsimp only
  refine wpAny_bind (PyProof.Rows.len_str hn ?_)
  refine wpAny_bind (wpAny_of_eq (a := some ((x.length : Nat) : Int)) rfl ?_)
  try dsimp only
  refine wpAny_bind ?_
  show wpAny _ _ (newObj (.type "reversed") (.fields #[.str x t, rawInt ((x.length : Int) - 1)])) _ _ _
  refine wpAny_newObj_type ?_
  exact wpAny_pure h
theorem call_reversed_str {Q : Value → Shared → Prop} (hn : ¬ (x.length : Int) ≥ 2 ^ 63)
    (h : Q (.ref s.heap.objs.size) { s with heap := s.heap.push (rsObj (.str x t) ((x.length : Int) - 1)), toks := s.toks + 1 + 1 }) : wpAny (model prog w) A (call (.type "reversed") [.str x t]) Q E s := by
  refine callType_codes (Q₁ := fun obj s₁ => s₁.TypeIs obj "reversed" ∧ Q obj s₁) called_rt (F.typeCall_reversed_1 _) F.entry_object_init
    (code_reversed_str (A := A.in1) hn ⟨⟨_, Heap.get?_push_size _ rfl, rfl⟩, h⟩) fun obj s₁ h₁ => ?_
  exact ⟨h₁.1, F.args_object_init_2 obj _, object_init_meets called_rt.init.lookup called_rt.made (by decide) prog w A.in1 _ s₁ ⟨h₁.1, rfl, h₁.2⟩⟩
theorem next_rs_item {it : Addr} {i : Nat} {c : Nat} {Q : Option Value → Shared → Prop} (hit : IsRs s.heap it (.str x t) (i : Int)) (hx : x.cps[i]? = some c) (hsz : x.length ≤ sizeLine)
    (hQ : ∀ h' u tk, IsRs h' it (.str x t) ((i : Int) - 1) → Heap.SameBut it s.heap h' → Q (some (.str ⟨#[c]⟩ u)) { s with heap := h', toks := tk }) : wpAny (model prog w) A (pyNext (.ref it)) Q E s := by
  obtain ⟨o, ho, hc, hd⟩ := id hit
  have hi : i < x.length := (Array.getElem?_eq_some_iff.mp hx).1
  have hT : s.TypeIs (.str x t) "str" := typeIs_str s x t
  rw [sizeLine_eq] at hsz
  unfold pyNext
  refine wpAny_bind (wpAny_attempt (wpAny_callSpecial?_slot (name := Str.ofString "__next__") hit.typeIs slot_rt_next
    (wpAny_call_entry slot_rt_next hit.typeIs entry_rt_next ?_ (args_rt_next _))))
  unfold Builtin.«reversed.__next__»
  refine wpAny_bind (wpAny_of_eq (a := (Value.ref it, [])) rfl ?_)
  try dsimp only
  refine wpAny_bind (wpAny_field ho hd (x := .str x t) rfl ?_)
  try dsimp only
  refine wpAny_bind (wpAny_field ho hd (x := rawInt (i : Int)) rfl ?_)
  show wpAny _ _ (if (i : Int) < 0 then _ else _) _ _ s
  rw [if_neg (by omega)]
  try dsimp only
  refine wpAny_bind (wpAny_specialOf hT get_str ?_)
  try dsimp only
  try rw [if_neg (by decide)]
  try dsimp only
  refine wpAny_bind (wpAny_mkInt ?_)
  refine wpAny_bind (wpAny_attempt ?_)
  have fin : seqIndex? (i : Int) x.length = some i := seqIndex_of (by omega) (by omega)
  refine PyProof.Rows.getItem_str (c := c) (by rw [decide_eq_false (by omega), decide_eq_false (by omega)]; rfl) (by rw [fin]; exact hx) ?_
  try dsimp only
  refine wpAny_bind (wpAny_field (s := { s with toks := s.toks + 1 + 1 }) ho hd (x := rawInt (i : Int)) rfl ?_)
  try dsimp only
  refine wpAny_bind (wpAny_setField (s := { s with toks := s.toks + 1 + 1 }) ho hd (by simp) ?_)
  first
  | refine wpAny_pure ⟨_, rfl, wpAny_pure (hQ _ _ _ ?_ (Heap.SameBut.update ..))⟩
  | refine wpAny_bind (wpAny_pure (wpAny_pure ⟨_, rfl, wpAny_pure (hQ _ _ _ ?_ (Heap.SameBut.update ..))⟩))
  exact ⟨_, Heap.get?_update_self _ ho (Obj.isFreed_of_fields (Obj.data_mapFields hd _)), (Obj.cls_mapFields ..).trans hc, by
    rw [Obj.data_mapFields hd]; simp⟩
theorem next_rs_end {it : Addr} {v : Value} {Q : Option Value → Shared → Prop} (hh : A.handled = none) (hit : IsRs s.heap it v (-1))
    (hQ : ∀ h', Heap.ExtBut it s.heap h' → Q none { s with heap := h' }) : wpAny (model prog w) A (pyNext (.ref it)) Q E s := by
  obtain ⟨o, ho, hc, hd⟩ := id hit
  unfold pyNext
  refine wpAny_bind (wpAny_attempt (wpAny_callSpecial?_slot (name := Str.ofString "__next__") hit.typeIs slot_rt_next
    (wpAny_call_entry slot_rt_next hit.typeIs entry_rt_next ?_ (args_rt_next _))))
  unfold Builtin.«reversed.__next__»
  refine wpAny_bind (wpAny_of_eq (a := (Value.ref it, [])) rfl ?_)
  try dsimp only
  refine wpAny_bind (wpAny_field ho hd (x := v) rfl ?_)
  try dsimp only
  refine wpAny_bind (wpAny_field ho hd (x := rawInt (-1)) rfl ?_)
  show wpAny _ _ (if (-1 : Int) < 0 then _ else _) _ _ s
  rw [if_pos (by decide)]
  try dsimp only
  refine wpAny_bind (wpAny_rule ?_)
  refine wpAny_bind ?_
  wp_delta
  refine wpAny_bind (wpAny_setField ho hd (by simp) ?_)
  have ho2 := Heap.get?_update_self (Obj.mapFields (·.setIfInBounds 1 (rawInt (-1)))) ho (Obj.isFreed_of_fields (Obj.data_mapFields hd _))
  refine wpAny_setField (s := { s with heap := s.heap.update it (Obj.mapFields (·.setIfInBounds 1 (rawInt (-1)))) }) ho2 (Obj.data_mapFields hd _) (by simp) ?_
  try dsimp only
  first
  | show wpAny _ _ (newExc (.type "StopIteration") [] >>= _) _ _ _
  | (refine wpAny_bind ?_; show wpAny _ _ (newExc (.type "StopIteration") [] >>= _) _ _ _)
  | (refine wpAny_bind ?_; wp_delta; show wpAny _ _ (newExc (.type "StopIteration") [] >>= _) _ _ _)
  refine wpAny_bind ?_
  simp only [newExc, newTuple]
  refine wpAny_bind (wpAny_newObj_type ?_ (by size_fits))
  refine wpAny_bind (m := firstArgMember _ _) (wpAny_of_eq (a := Value.none) (by first | rfl | (simp only [firstArgMember]; rfl)) ?_)
  refine wpAny_newObj_type ?_ (by size_fits)
  simp only [raiseNew]
  refine wpAny_bind (wpAny_handled ?_)
  first | rw [show A.in1.handled = none from hh] | rw [hh]
  refine wpAny_bind (wpAny_pure (wpAny_throw ?_))
  refine wpAny_bind (wpAny_isInstance (T := "StopIteration") (b := true) ⟨_, Heap.get?_push_size _ rfl, rfl⟩ isSubtype_stop ?_)
  refine wpAny_pure (hQ _ ?_)
  refine ((?_ : Heap.ExtBut it s.heap _).push _).push _
  exact fun b ob hb e => (Heap.get?_update_other _ _ (Ne.symm hb)).trans ((Heap.get?_update_other _ _ (Ne.symm hb)).trans e)
theorem iter_rs {it : Addr} {v : Value} {i : Int} {Q : Value → Shared → Prop} (hit : IsRs s.heap it v i) (h : Q (.ref it) s) : wpAny (model prog w) A (pyIter (.ref it)) Q E s := by
  refine wpAny_pyIter_slot hit.typeIs slot_rt_iter (wpAny_call_entry slot_rt_iter hit.typeIs entry_rt_iter ?_ (args_rt_iter _))
  show wpAny _ _ (ret (.ref it)) _ _ s
  exact wpAny_pure ⟨_, rfl, "reversed", _, hit.typeIs, slot_rt_next.lookup, h⟩
end
/-- the signs of x from the last one on -/
def Itw (x : Str) : It := ⟨fun i _ => i < x.length, fun i H v H' => H' = H ∧ ∃ c, x.cps[x.length - 1 - i]? = some c ∧ v = .str ⟨#[c]⟩, fun i _ => x.length ≤ i⟩
theorem turn_rs {P : Program} {w : World} {K : PySem.W.Frag} {tg : Expr} (it : Addr) (x : Str) (t : Tok) (hz : x.length ≤ sizeLine) :
    Turn P w K tg (Itw x) [it] it (fun i h => i ≤ x.length ∧ IsRs h it (.str x t) ((x.length : Int) - 1 - (i : Nat))) where
  mem := by simp
  obj := fun i h st b hb => by
    have e : b = it := by simpa using hb
    subst e
    obtain ⟨_, o, e, c, d⟩ := st
    exact ⟨o, e, fun v z => by rw [d] at z; cases z⟩
  keep := fun i h h' st k => ⟨st.1, st.2.at fun o e => k it (by simp) o e⟩
  item := by
    intro X hP hw hK hc i pins s σ H E I hf st hg
    subst hP hw hK
    have hin : i < x.length := hg
    obtain ⟨f0, f1, f2, f3, f4, f5⟩ := hf it (by simp)
    obtain ⟨_, hit⟩ := st
    have e1 : (x.length : Int) - 1 - ((i : Nat) : Int) = ((x.length - 1 - i : Nat) : Int) := by omega
    rw [e1] at hit
    have hlt : x.length - 1 - i < x.cps.size := by show _ < x.length; omega
    obtain ⟨c, hx⟩ : ∃ c, x.cps[x.length - 1 - i]? = some c := ⟨_, Array.getElem?_eq_getElem hlt⟩
    refine next_rs_item hit hx hz fun h' u tk st' sb => ?_
    have e2 : ((x.length - 1 - i : Nat) : Int) - 1 = (x.length : Int) - 1 - ((i + 1 : Nat) : Int) := by omega
    rw [e2] at st'
    have I1 : Inv X pins σ H { s with heap := h', toks := tk } := I.turned (fun b o hb e => (sb.2 b hb).trans e) f0 f1 f3 f4 f5
    obtain ⟨o, e, c', d⟩ := id st'
    exact ⟨_, rfl, go_of (s := { s with heap := h', toks := tk }) e c' d (by decide) ⟨.str ⟨#[c]⟩, H, I1, ⟨u, rfl⟩, ⟨rfl, c, hx, rfl⟩, ⟨hin, st'⟩, fun b hb => (hf b hb).1⟩⟩
  done := by
    intro X hP hw hK hc i pins s σ H E I hf st hg
    subst hP hw hK
    obtain ⟨f0, f1, f2, f3, f4, f5⟩ := hf it (by simp)
    obtain ⟨hin, hit⟩ := st
    have hge : x.length ≤ i := hg
    have e1 : (x.length : Int) - 1 - ((i : Nat) : Int) = -1 := by omega
    rw [e1] at hit
    exact next_rs_end (I.ok.hd hc) hit fun h' eb => ⟨rfl, I.turned (t' := s.toks) (fun b o hb e => eb b o hb e) f0 f1 f3 f4 f5⟩
  self := fun A i s Q E st h => iter_rs st.2 h
/-- reversed(x), x a list or a text -/
def iRevB (K : PySem.W.Frag) (te : TE) : TI := fun σ H R => te σ H fun v H1 => (∃ (a : Addr) (xs : List V), v = .ref a ∧ SqL K H1 a xs ∧ R (Itv K a xs.length) H1) ∨ ∃ x : Str, v = .str x ∧ x.length ≤ sizeLine ∧ R (Itw x) H1
section
variable {X : Cx} {tg : Expr}
theorem pi_revB {e : Expr} {te : TE} {p pos : Pos} (hg : Gl X "reversed") (hm : X.mg "reversed" = none) (he : PE X e te) (hs : starEach [e] X.env = (false, eval e X.env) :: starEach [] X.env := by rfl) : PI X tg (.Call (.Name "reversed" p) [e] [] pos) (iRevB X.K te) := by
  refine ⟨fun pins s σ H R I h => ?_⟩
  refine Call_ (ld_blt I hg hm PyProof.Rows.boot_reversed (PyProof.Rows.callWith_type1 (args_cons (thn (he.run pins s σ H _ I h) fun u s1 ⟨v, H1, I1, r1, q1⟩ => args_nil ?_) hs) hs rfl))
  rcases q1 with ⟨a, xs, ev, hq, q⟩ | ⟨x, ev, hz, q⟩
  · subst ev
    obtain rfl : u = Value.ref a := r1
    obtain ⟨its, rv, p', hz⟩ := I1.list hq
    have hl := rv.length
    have e1 : ((its.toArray.size : Nat) : Int) - 1 = (xs.length : Int) - 1 - ((0 : Nat) : Int) := by simp only [List.size_toArray]; omega
    refine call_reversed_list p'.isList (wpAny_pyIter_revIter (l := a) (i := ((its.toArray.size : Nat) : Int) - 1) ⟨_, Heap.get?_push_size _ rfl, rfl, rfl⟩ ?_)
    refine pi_one (tk := s1.toks) I1 _ (turn_rev a _ xs.length) ⟨Nat.zero_le _, ?_⟩ q
    rw [← e1]
    exact ⟨_, Heap.get?_push_size _ rfl, rfl, rfl⟩
  · subst ev
    obtain ⟨t, rfl⟩ := r1
    have hn : ¬ (x.length : Int) ≥ 2 ^ 63 := by rw [sizeLine_eq] at hz; omega
    have e1 : ((x.length : Nat) : Int) - 1 = (x.length : Int) - 1 - ((0 : Nat) : Int) := by omega
    refine call_reversed_str hn (iter_rs (v := .str x t) (i := (x.length : Int) - 1) ⟨_, Heap.get?_push_size _ rfl, rfl, rfl⟩ ?_)
    refine pi_one (tk := s1.toks + 1 + 1) I1 _ (turn_rs _ x t hz) ⟨Nat.zero_le _, ?_⟩ q
    rw [← e1]
    exact ⟨_, Heap.get?_push_size _ rfl, rfl, rfl⟩
end
end RVS

/-! min(xs) of a list of texts -/
namespace MinS
open PySem PySem.Spec PyProof.Rows L2
theorem strs_lt {prog : Program} {w : World} {A : Around} {P : Nat → Value → Prop} (val : Nat → Str) (hval : ∀ i v, P i v → ∃ t, v = .str (val i) t) :
    CmpOf prog w A .Lt P (fun i j => decide ((val i).cps.toList < (val j).cps.toList)) := fun i j vi vj s Q E hi hj h => by
  obtain ⟨t, rfl⟩ := hval i vi hi
  obtain ⟨u, rfl⟩ := hval j vj hj
  exact richCompare_gives (op := .Lt) (typeIs_str s _ t) (typeIs_str s _ u) F.slot_str_lt F.entry_str_lt (F.args_str_lt_2 _ _) (gives_str_lt _ _ t u) (fun x => nomatch x) h
section
variable {prog : Program} {w : World} {A : Around} {E : Value → Shared → Prop} {s : Shared} {l : Addr}
theorem iter_any {its : Array Value} {Q : Value → Shared → Prop} (hl : s.heap.IsList l its)
    (h : ∀ s₂ : Shared, s₂ = { s with heap := s.heap.push { cls := .type "list_iterator", data := .fields #[.ref l, .int 0 0] } } →
      (s₂.heap.IsListIter s.heap.objs.size l 0 ∧ s₂.heap.IsList l its) → (∀ b ∈ [s.heap.objs.size, l], b < s₂.heap.objs.size) → l ≠ s.heap.objs.size → Q (.ref s.heap.objs.size) s₂) :
    wpAny (model prog w) A (pyIter (.ref l)) Q E s := by
  have hlt : l < s.heap.objs.size := by obtain ⟨_, e, _⟩ := hl; exact Heap.lt_size e
  refine wpAny_pyIter_list hl (h _ rfl ⟨⟨_, Heap.get?_push_size _ rfl, rfl, rfl⟩, hl.push _⟩ (fun b hb => ?_) (Nat.ne_of_lt hlt))
  show b < (s.heap.push _).objs.size
  rw [Heap.size_push]
  rcases List.mem_cons.mp hb with rfl | hb
  · exact Nat.lt_succ_self _
  · rcases List.mem_cons.mp hb with rfl | hb
    · exact Nat.lt_succ_of_lt hlt
    · cases hb
def vAt (xs : List Str) (i : Nat) : Str := xs.getD i ⟨#[]⟩
theorem vals_at {xs : List Str} {its : List Value} (r : Vals (xs.map V.str) its) {i : Nat} {v : Value} (h : its.toArray[i]? = some v) : ∃ t, v = .str (vAt xs i) t := by
  have h' : its[i]? = some v := by simpa using h
  induction xs generalizing its i with
  | nil => cases r; simp at h'
  | cons x xs ih =>
    cases r with
    | cons r1 r2 =>
      cases i with
      | zero =>
        obtain ⟨t, rfl⟩ := r1
        simp at h'
        exact ⟨t, h'.symm⟩
      | succ i =>
        have h2 := h'
        simp only [List.getElem?_cons_succ] at h2
        obtain ⟨t, e⟩ := ih r2 (by simpa using h2) h2
        exact ⟨t, e⟩
theorem min_strs {its : List Value} {xs : List Str} {Q : Value → Shared → Prop} (hh : A.handled = none) (hl : s.heap.IsList l its.toArray) (rv : Vals (xs.map V.str) its) (hne : 0 < xs.length)
    (h : ∀ t h' tk, (∀ b o, s.heap.get? b = some o → h'.get? b = some o) → Q (.str (vAt xs (argBest (fun i j => decide ((vAt xs i).cps.toList < (vAt xs j).cps.toList)) (xs.length - 1))) t) { s with heap := h', toks := tk }) :
    wpAny (model prog w) A (call (.builtin "min") [.ref l]) Q E s := by
  have hlen : its.length = xs.length := by have := rv.length; rw [List.length_map] at this; omega
  refine call_min_walk (iter_any hl fun s₂ e st hfp hlI => ?_)
  subst e
  refine ⟨_, _, _, _, _, _, _, rfl, Walks.list (A := A.in1) hh _ l hlI its.toArray, st, hfp, by rw [List.size_toArray, hlen]; exact hne, strs_lt (vAt xs) (fun _ _ => vals_at rv), fun v h' tk hP hk => ?_⟩
  rw [List.size_toArray, hlen] at hP
  obtain ⟨t, rfl⟩ := vals_at rv hP
  exact h t h' tk (old_kept hk)
end
def rMinS (K : PySem.W.Frag) : List V → Hp → VK → Prop := fun vs H Q => ∃ (a : Addr) (xs : List Str), vs = [V.ref a] ∧ SqL K H a (xs.map V.str) ∧ 0 < xs.length ∧ Q (.str (vAt xs (argBest (fun i j => decide ((vAt xs i).cps.toList < (vAt xs j).cps.toList)) (xs.length - 1)))) H
theorem cr_minS {X : Cx} (hc : X.calm = true) : CallR X (.builtin "min") (rMinS X.K) := by
  intro pins s σ H vs us Q I r h
  obtain ⟨a, xs, rfl, hs, hne, q⟩ := h
  obtain ⟨its, rv, hl, _⟩ := I.list hs
  rw [Vals.ref1 r]
  exact min_strs (I.ok.hd hc) hl.isList rv hne fun t h' tk hk => ⟨.str _, H, I.kept hk, ⟨_, rfl⟩, q⟩
/-- the least by going along -/
theorem best_fold (xs : List Str) : ∀ k, k < xs.length → (vAt xs (argBest (fun i j => decide ((vAt xs i).cps.toList < (vAt xs j).cps.toList)) k)).cps.toList = (((xs.take (k + 1)).drop 1).map fun x => x.cps.toList).foldl (fun m x => if x < m then x else m) (vAt xs 0).cps.toList
  | 0, h => by
    have : (xs.take 1).drop 1 = [] := List.drop_eq_nil_of_le (by rw [List.length_take]; omega)
    rw [this]
    rfl
  | k + 1, h => by
    have ih := best_fold xs k (by omega)
    have e : (xs.take (k + 1 + 1)).drop 1 = (xs.take (k + 1)).drop 1 ++ [xs[k + 1]] := by
      rw [List.take_succ, List.drop_append_of_le_length (by rw [List.length_take]; omega), List.getElem?_eq_getElem h]
      rfl
    have ev : vAt xs (k + 1) = xs[k + 1] := by unfold vAt; rw [List.getD_eq_getElem?_getD, List.getElem?_eq_getElem h]; rfl
    rw [e, List.map_append, List.foldl_append, ← ih]
    show (vAt xs (if decide ((vAt xs (k + 1)).cps.toList < _) = true then k + 1 else _)).cps.toList = if xs[k + 1].cps.toList < _ then xs[k + 1].cps.toList else _
    rw [← ev]
    by_cases hlt : (vAt xs (k + 1)).cps.toList < (vAt xs (argBest (fun i j => decide ((vAt xs i).cps.toList < (vAt xs j).cps.toList)) k)).cps.toList
    · rw [decide_eq_true hlt, if_pos rfl, if_pos hlt]
    · rw [decide_eq_false hlt, if_neg Bool.false_ne_true, if_neg hlt]
end MinS

/-! ## PV: plain data, a Core of Python without positions, its evaluator -/
namespace PV

inductive D where
  | non | bl (b : Bool) | int (i : Int) | str (x : List Nat)
  | lst (xs : List D) | tup (xs : List D) | dct (ks vs : List D)
  | exc (c : Nat) (fs : List D) | fn (n : Nat) | ref (n : Nat) | scr (ns : List Int)
  deriving Inhabited

/-- a text written in Lean, as its codes -/
def tx (s : String) : List Nat := s.toList.map Char.toNat
abbrev D.s (s : String) : D := .str (tx s)
abbrev SZ : Nat := 16777216

/-- what a piece of code comes to: a value and the store of the shared objects; an exception; nothing that is carried here -/
inductive R (α : Type) where
  | ok (a : α) (S : List D)
  | exc (e : D) (S : List D)
  | stuck
namespace R
def bnd {α β : Type} (m : R α) (f : α → List D → R β) : R β :=
  match m with
  | .ok a S => f a S
  | .exc e S => .exc e S
  | .stuck => .stuck
@[simp] theorem bnd_ok {α β : Type} (a : α) (S : List D) (f : α → List D → R β) : bnd (.ok a S) f = f a S := id rfl
@[simp] theorem bnd_exc {α β : Type} (e : D) (S : List D) (f : α → List D → R β) : bnd (.exc e S) f = .exc e S := id rfl
@[simp] theorem bnd_stuck {α β : Type} (f : α → List D → R β) : bnd .stuck f = .stuck := id rfl
def lif {α : Type} (o : Option α) (S : List D) : R α :=
  match o with
  | some a => .ok a S
  | none => .stuck
@[simp] theorem lif_some {α : Type} (a : α) (S : List D) : lif (some a) S = .ok a S := id rfl
@[simp] theorem lif_none {α : Type} (S : List D) : lif (none : Option α) S = .stuck := id rfl
/-- within a comprehension no exception is carried -/
def nox {α : Type} (m : R α) : R α :=
  match m with
  | .exc _ _ => .stuck
  | m => m
@[simp] theorem nox_ok {α : Type} (a : α) (S : List D) : nox (.ok a S) = .ok a S := id rfl
@[simp] theorem nox_exc {α : Type} (e : D) (S : List D) : nox (.exc e S : R α) = .stuck := id rfl
@[simp] theorem nox_stuck {α : Type} : nox (.stuck : R α) = .stuck := id rfl
end R

/-! ### operations by values -/
inductive Bop | add | sub | mul | mod | fdiv | pow
  deriving DecidableEq
inductive Cop | eq | ne | lt | le | gt | ge | isin | notin | is | isnot
  deriving DecidableEq

def truthy : D → Option Bool
  | .non => some false
  | .bl b => some b
  | .int i => some (i != 0)
  | .str x => some (!x.isEmpty)
  | .lst xs => some (!xs.isEmpty)
  | .tup xs => some (!xs.isEmpty)
  | _ => none

/-- a product that the model carries -/
def mulOk (i j : Int) : Bool := decide (i.natAbs < 2 ^ 64) || decide (j.natAbs < 2 ^ 64) || decide (i.natAbs.log2 + j.natAbs.log2 < 1000000)

def rep {α : Type} (xs : List α) (k : Int) : Option (List α) :=
  if -(2 ^ 63) ≤ k ∧ k < 2 ^ 63 ∧ xs.length * k.toNat ≤ SZ then some (List.replicate k.toNat xs).flatten else none

def bopD : Bop → D → D → Option D
  | .add, .int i, .int j => some (.int (i + j))
  | .add, .str x, .str y => if x.length + y.length ≤ SZ then some (.str (x ++ y)) else none
  | .add, .lst x, .lst y => if x.length + y.length ≤ SZ then some (.lst (x ++ y)) else none
  | .add, .tup x, .tup y => if x.length + y.length ≤ SZ then some (.tup (x ++ y)) else none
  | .sub, .int i, .int j => some (.int (i - j))
  | .mul, .int i, .int j => if mulOk i j then some (.int (i * j)) else none
  | .mul, .lst x, .int k => (rep x k).map .lst
  | .mul, .str x, .int k => (rep x k).map .str
  | .mod, .int i, .int j => if j ≠ 0 then some (.int (i.fmod j)) else none
  | .fdiv, .int i, .int j => if j ≠ 0 ∧ j.natAbs.log2 < 9000 then some (.int (i.fdiv j)) else none
  | .pow, .int i, .int j => if 0 ≤ j ∧ ((i.natAbs.log2 + 1 : Nat) : Int) * j ≤ 2 ^ 27 then some (.int (i ^ j.toNat)) else none
  | _, _, _ => none

/-! data that == tells apart: None, bools, ints, texts, lists, tuples of these -/
mutual
def dataOk : D → Bool
  | .non | .bl _ | .int _ | .str _ => true
  | .lst xs => datasOk xs
  | .tup xs => datasOk xs
  | _ => false
def datasOk : List D → Bool
  | [] => true
  | x :: r => dataOk x && datasOk r
end
mutual
def dep : D → Nat
  | .lst xs => deps xs + 1
  | .tup xs => deps xs + 1
  | _ => 0
def deps : List D → Nat
  | [] => 0
  | x :: r => max (dep x) (deps r)
end
mutual
def eqD : D → D → Bool
  | .non, .non => true
  | .bl a, .bl b => a == b
  | .bl a, .int j => (if a then 1 else 0) == j
  | .int i, .bl b => i == (if b then 1 else 0)
  | .int i, .int j => i == j
  | .str x, .str y => x == y
  | .lst xs, .lst ys => eqDs xs ys
  | .tup xs, .tup ys => eqDs xs ys
  | _, _ => false
def eqDs : List D → List D → Bool
  | [], [] => true
  | x :: xs, y :: ys => eqD x y && eqDs xs ys
  | _, _ => false
end

/-! ### comparisons -/
def lexLtN (x y : List Nat) : Bool := decide (x < y)
def hasN (p : List Nat) : List Nat → Bool
  | [] => p.isEmpty
  | c :: r => p.isPrefixOf (c :: r) || hasN p r
def isK : D → Bool
  | .int _ | .str _ => true
  | _ => false
def keyOk : D → Bool
  | .int _ | .str _ => true
  | .tup ks => ks.all isK
  | _ => false
def keyEq : D → D → Bool
  | .int i, .int j => i == j
  | .str i, .str j => i == j
  | .tup i, .tup j => eqDs i j
  | _, _ => false
def dget : List D → List D → D → Option D
  | k :: ks, v :: vs, x => if keyEq k x then some v else dget ks vs x
  | _, _, _ => none
/-- a dict that is empty and whose keys are to be tuples -/
abbrev dT0 : D := .dct [.tup []] []
def isT : D → Bool
  | .tup _ => true
  | _ => false
/-- a key of the dict's own kind -/
def kmOk (ks : List D) (k : D) : Bool := keyOk k && (isT (ks.headD .non) == isT k)
/-- d[x] = y: the keys, the values -/
def dput (ks vs : List D) (x y : D) : List D × List D :=
  if vs.isEmpty then ([x], [y]) else if (dget ks vs x).isSome then (ks, List.zipWith (fun k v => if keyEq k x then y else v) ks vs) else (ks ++ [x], vs ++ [y])
def hasP (p : List Nat) (y : List Nat) : Bool := hasN p y
/-- == between the two is carried -/
def cmpOk (x y : D) : Bool := dataOk x && dataOk y && (decide (dep x ≤ 60) || decide (dep y ≤ 60))
def inD (x : D) : D → Option Bool
  | .str y => match x with | .str [c] => some (decide (c ∈ y)) | .str x => some (hasN x y) | _ => none
  | .dct ks vs => if kmOk ks x then some (dget ks vs x).isSome else none
  | .lst ys => if dataOk x && datasOk ys && (decide (deps ys ≤ 60) || decide (dep x ≤ 60)) then some (ys.any fun y => eqD y x) else none
  | .tup ys => if dataOk x && datasOk ys && (decide (deps ys ≤ 60) || decide (dep x ≤ 60)) then some (ys.any fun y => eqD y x) else none
  | _ => none
def isD (x y : D) : Option Bool :=
  match x, y with
  | .fn _, _ => none
  | .non, .non => some true
  | _, .non => some false
  | .bl a, .bl b => some (a == b)
  | _, .bl _ => some false
  | _, _ => none
/-- two dicts of flat values that hold the same, in whatever order -/
def flatEq : D → D → Bool
  | .non, .non => true
  | .bl a, .bl b => a == b
  | .int a, .int b => a == b
  | .str a, .str b => a == b
  | _, _ => false
def dEq : D → D → Bool
  | .dct ks ws, .dct ls us => ks.all isK && ls.all isK && ks.length == ls.length && ks.length == ws.length && ls.length == us.length && (List.zip ks ws).all fun p => match dget ls us p.1 with
    | some v => flatEq p.2 v
    | none => false
  | _, _ => false
def copD : Cop → D → D → Option Bool
  | .eq, x, y => if cmpOk x y then some (eqD x y) else if dEq x y then some true else none
  | .ne, x, y => if cmpOk x y then some (!eqD x y) else if dEq x y then some false else none
  | .lt, .int i, .int j => some (decide (i < j))
  | .le, .int i, .int j => some (decide (i ≤ j))
  | .gt, .int i, .int j => some (decide (j < i))
  | .ge, .int i, .int j => some (decide (j ≤ i))
  | .lt, .str x, .str y => some (lexLtN x y)
  | .le, .str x, .str y => some (!lexLtN y x)
  | .gt, .str x, .str y => some (lexLtN y x)
  | .ge, .str x, .str y => some (!lexLtN x y)
  | .isin, x, y => inD x y
  | .notin, x, y => (inD x y).map (!·)
  | .is, x, y => isD x y
  | .isnot, x, y => (isD x y).map (!·)
  | _, _, _ => none

/-! ### places, slices -/
def ixD {α : Type} (xs : List α) (i : Int) : Option α := L2.atI xs i
def cut {α : Type} (xs : List α) (lo hi : Option Int) : List α := (xs.drop (HT.sIx xs.length 0 lo)).take (HT.sIx xs.length xs.length hi - HT.sIx xs.length 0 lo)
def subD : D → D → List D → Option D
  | .lst xs, .int i, _ => ixD xs i
  | .tup xs, .int i, _ => ixD xs i
  | .str xs, .int i, _ => (ixD xs i).map fun c => .str [c]
  | .scr ns, .int i, _ => (ixD ns i).map .int
  | .dct ks vs, k, _ => if kmOk ks k then dget ks vs k else none
  | .ref n, k, S => match S[n]? with | some (.lst xs) => (match k with | .int i => ixD xs i | _ => none) | some (.dct ks vs) => if kmOk ks k then dget ks vs k else none | _ => none
  | _, _, _ => none
def sliD (x : D) (l h : Option Int) : Option D :=
  match x with
  | .lst xs => some (.lst (cut xs l h))
  | .tup xs => some (.tup (cut xs l h))
  | .str xs => some (.str (cut xs l h))
  | .scr ns => some (.lst ((cut ns l h).map .int))
  | _ => none
def revD : D → Option D
  | .lst xs => some (.lst xs.reverse)
  | .str xs => some (.str xs.reverse)
  | _ => none

/-! what a shared object may hold: things without lists and dicts of their own -/
mutual
def immD : D → Bool
  | .non | .bl _ | .int _ | .str _ | .ref _ | .fn _ => true
  | .tup xs => immDs xs
  | _ => false
def immDs : List D → Bool
  | [] => true
  | x :: r => immD x && immDs r
end
/-- a shared object -/
def obI : D → Bool
  | .lst xs => immDs xs
  | .dct _ vs => immDs vs
  | _ => false
/-- the object itself -/
def rdD (S : List D) : D → Option D
  | .ref n => S[n]?
  | d => some d
/-- the shared objects in it read -/
def dpD (S : List D) : Nat → D → D
  | 0, d => d
  | k + 1, .ref n => dpD S k (S.getD n .non)
  | k + 1, .tup xs => .tup (xs.map (dpD S k))
  | k + 1, .lst xs => .lst (xs.map (dpD S k))
  | k + 1, .dct ks vs => .dct ks (vs.map (dpD S k))
  | _ + 1, d => d
def deepD (S : List D) (d : D) : D := dpD S 8 d
/-- xs[i] = e, d[k] = e -/
def setD : D → D → D → Option D
  | .lst xs, .int i, y => (L2.ixN xs.length i).map fun j => .lst (xs.set j y)
  | .dct ks vs, k, y => if kmOk ks k ∧ vs.length < SZ then some (.dct (dput ks vs k y).1 (dput ks vs k y).2) else none
  | _, _, _ => none
def extD : D → D → Option D
  | .lst xs, .lst ys => if xs.length + ys.length ≤ SZ then some (.lst (xs ++ ys)) else none
  | _, _ => none
def insD : D → D → D → Option D
  | .lst xs, .int i, y => if 0 ≤ i ∧ i < 2 ^ 62 ∧ xs.length < SZ then some (.lst (xs.take i.toNat ++ y :: xs.drop i.toNat)) else none
  | _, _, _ => none
/-- xs.pop(k) -/
def popKD (xs : List D) (k : Int) : Option (D × List D) := if 0 ≤ k ∧ k < 2 ^ 62 then (xs[k.toNat]?).map fun y => (y, xs.eraseIdx k.toNat) else none
/-- xs.pop(): the item, the rest -/
def popD : D → Option (D × D)
  | .lst xs => (xs.getLast?).map fun y => (y, .lst xs.dropLast)
  | _ => none
/-- the pairs of a display -/
def dpr : List D → Option (List (D × D))
  | [] => some []
  | k :: v :: r => if isK k = true then (dpr r).map ((k, v) :: ·) else none
  | _ => none
def dputs : List (D × D) → List D × List D → List D × List D
  | [], p => p
  | q :: r, p => dputs r (dput p.1 p.2 q.1 q.2)
def dspD (xs : List D) : Option D := (dpr xs).map fun ps => .dct (dputs ps ([], [])).1 (dputs ps ([], [])).2

/-! ### built-ins -/
inductive BI | len | int | max | min | abs | repr | sorted | str | sum | all | any
  deriving DecidableEq
inductive Ty | int | bool | str | lst | tup | dct | cls (n : Nat)
  deriving DecidableEq
inductive MT | join | bitlen | get | upper | index
  deriving DecidableEq

def intsOf : List D → Option (List Int)
  | [] => some []
  | .int i :: r => (intsOf r).map (i :: ·)
  | _ :: _ => none
def strsOf : List D → Option (List (List Nat))
  | [] => some []
  | .str i :: r => (strsOf r).map (i :: ·)
  | _ :: _ => none
def blsOf : List D → Option (List Bool)
  | [] => some []
  | .bl i :: r => (blsOf r).map (i :: ·)
  | _ :: _ => none
def prsOf : List D → Option (List (Int × Int))
  | [] => some []
  | .tup [.int i, .int j] :: r => (prsOf r).map ((i, j) :: ·)
  | _ :: _ => none
def insB {α : Type} (lt : α → α → Bool) (x : α) : List α → List α
  | [] => [x]
  | y :: r => if lt y x then y :: insB lt x r else x :: y :: r
def sortB {α : Type} (lt : α → α → Bool) (l : List α) : List α := l.foldr (insB lt) []
def sortI (l : List Int) : List Int := sortB (fun x y => decide (x < y)) l
def sortS (l : List (List Nat)) : List (List Nat) := sortB lexLtN l
def ltPr (p q : Int × Int) : Bool := decide (p.1 < q.1) || (p.1 == q.1 && decide (p.2 < q.2))
def sortP (l : List (Int × Int)) : List (Int × Int) := sortB ltPr l
def decN (n : Nat) : List Nat := (Nat.toDigits 10 n).map Char.toNat
def decI : Int → List Nat
  | .ofNat n => decN n
  | .negSucc n => 45 :: decN (n + 1)
def joinN (s : List Nat) : List (List Nat) → List Nat
  | [] => []
  | [x] => x
  | x :: y :: r => x ++ (s ++ joinN s (y :: r))
def bitLen (n : Nat) : Nat := if (n == 0) = true then 0 else n.log2 + 1

/-! repr, by the model's own text of data -/
mutual
def toR : D → PySem.PyData
  | .bl b => .bool b
  | .int i => .int i
  | .str x => .str ⟨x.toArray⟩
  | .lst xs => .list (toRs xs)
  | .tup xs => .tuple (toRs xs)
  | _ => .none
def toRs : List D → List PySem.PyData
  | [] => []
  | x :: r => toR x :: toRs r
end
mutual
def showOk : D → Bool
  | .non | .bl _ | .str _ => true
  | .int i => decide (i.natAbs.log2 < 1920)
  | .lst xs => showsOk xs
  | .tup xs => showsOk xs
  | _ => false
def showsOk : List D → Bool
  | [] => true
  | x :: r => showOk x && showsOk r
end
def flatD : D → Bool
  | .non | .bl _ | .int _ | .str _ => true
  | _ => false
def toRd : D → PySem.PyData
  | .dct ks vs => .dict (List.zip (ks.map toR) (vs.map toR))
  | d => toR d
def showOkd : D → Bool
  | .dct ks vs => ks.all (fun k => flatD k && showOk k) && vs.all (fun v => flatD v && showOk v)
  | d => showOk d
def reprS (d : D) : List Nat := (toRd d).shown.cps.toList

/-- < between two, the order of data -/
def alkD (x y : D) : Bool := PySem.W.alike (toR x) (toR y)
def ltD (x y : D) : Bool := PySem.W.dataLt (toR x) (toR y)
def srtOk (xs : List D) : Bool := xs.all (fun x => xs.all fun y => alkD x y) && (xs.all (fun x => match x with | .tup (_ :: _) => true | _ => false) || xs.all fun x => match x with | .tup _ => false | .non => false | _ => true)
def sortD (xs : List D) : List D := xs.mergeSort fun a b => !ltD b a
def biD : BI → List D → Option D
  | .repr, [x] => if showOkd x = true ∧ dep x ≤ 60 ∧ (reprS x).length ≤ SZ then some (.str (reprS x)) else none
  | .len, [.str x] => some (.int x.length)
  | .len, [.lst x] => some (.int x.length)
  | .len, [.tup x] => some (.int x.length)
  | .len, [.dct _ x] => some (.int x.length)
  | .len, [.scr x] => some (.int x.length)
  | .int, [.int i] => some (.int i)
  | .int, [.bl b] => some (.int (if b then 1 else 0))
  | .max, [.int i, .int j] => some (.int (if j > i then j else i))
  | .min, [.int i, .int j] => some (.int (if j < i then j else i))
  | .abs, [.int i] => some (.int (if i < 0 then -i else i))
  | .str, [.int i] => if i.natAbs.log2 < 12900 then some (.str (decI i)) else none
  | .min, [.int i, .int j, .int k] => some (.int (min (min i j) k))
  | .min, [.lst xs] => match intsOf xs with | some (i :: l) => some (.int (l.foldl min i)) | _ => (match strsOf xs with | some (a :: l) => some (.str (l.foldl (fun m x => if x < m then x else m) a)) | _ => none)
  | .max, [.lst xs] => match intsOf xs with | some (i :: l) => some (.int (l.foldl max i)) | _ => none
  | .sum, [.lst xs] => (intsOf xs).map fun l => .int l.sum
  | .all, [.lst xs] => (blsOf xs).map fun l => .bl (l.all id)
  | .any, [.lst xs] => (blsOf xs).map fun l => .bl (l.any id)
  | .sorted, [.lst xs] =>
    match intsOf xs with
    | some l => some (.lst ((sortI l).map .int))
    | none => match strsOf xs with
      | some l => if l.length < 64 then some (.lst ((sortS l).map .str)) else none
      | none => match prsOf xs with
        | some l => some (.lst ((sortP l).map fun p => .tup [.int p.1, .int p.2]))
        | none => if datasOk xs = true ∧ srtOk xs = true ∧ deps xs ≤ 60 ∧ xs.length ≤ SZ then some (.lst (sortD xs)) else none
  | _, _ => none
def mtOk : MT → D → Bool
  | .bitlen, .int _ => true
  | .join, .str _ => true
  | .index, .str _ => true
  | _, _ => false
def joinD (s : List Nat) : List D → Option D
  | [.lst xs] => match strsOf xs with
    | some l => if (l.map (·.length)).sum + l.length * s.length ≤ SZ then some (.str (joinN s l)) else none
    | none => none
  | _ => none
def mtD : MT → D → List D → Option D
  | .bitlen, .int i, [] => some (.int (bitLen i.natAbs))
  | .join, .str s, ds => joinD s ds
  | .index, .str s, [.str x] => match PySem.Builtin.Str.occurrences ⟨s.toArray⟩ ⟨x.toArray⟩ 0 s.length 1 with | i :: _ => some (.int (i : Nat)) | [] => none
  | _, _, _ => none
def tyD : Ty → D → Option Bool
  | .int, .int _ => some true
  | .int, .bl _ => some true
  | .bool, .bl _ => some true
  | .str, .str _ => some true
  | .lst, .lst _ => some true
  | .tup, .tup _ => some true
  | .dct, .dct _ _ => some true
  | _, .ref _ => none
  | _, .fn _ => none
  | _, .scr _ => none
  | _, .exc _ _ => none
  | _, _ => some false
def tyD2 (t u : Ty) (x : D) : Option Bool := (tyD t x).bind fun a => (tyD u x).map fun b => a || b
/-- is it an exception of the class c (0: of any) -/
def isxD (c : Nat) : D → Option Bool
  | .exc d _ => some (c == 0 || c == d)
  | .non | .bl _ | .int _ | .str _ | .lst _ | .tup _ | .dct _ _ => some false
  | _ => none
def xvalD : D → Option D
  | .exc _ [v] => some v
  | _ => none
/-- what a walk meets -/
def iterD : D → Option (List D)
  | .lst xs => some xs
  | .tup xs => some xs
  | .str xs => some (xs.map fun c => .str [c])
  | _ => none
def lstD : D → Option (List D)
  | .lst xs => some xs
  | .tup xs => some xs
  | .str xs => some (xs.map fun c => .str [c])
  | _ => none
def tupD : D → Option (List D)
  | .lst xs => some xs
  | .tup xs => some xs
  | _ => none
def rangeD : List D → Option (List D)
  | [.int n] => if -(2 ^ 62) ≤ n ∧ n ≤ SZ then some ((List.range n.toNat).map fun (k : Nat) => .int (k : Int)) else none
  | [.int a, .int b] => if -(2 ^ 62) ≤ a ∧ a < 2 ^ 62 ∧ -(2 ^ 62) ≤ b ∧ b < 2 ^ 62 ∧ b - a ≤ SZ then some ((List.range (b - a).toNat).map fun (k : Nat) => .int (a + (k : Int))) else none
  | [.int a, .int b, .int c] => if c = -1 ∧ -(2 ^ 62) ≤ a ∧ a < 2 ^ 62 ∧ -(2 ^ 62) ≤ b ∧ b < 2 ^ 62 ∧ a - b ≤ SZ then some ((List.range (a - b).toNat).map fun (k : Nat) => .int (a - (k : Int))) else none
  | _ => none
def zipD : List D → Option (List D)
  | [.lst x, .lst y] => some (List.zipWith (fun a b => .tup [a, b]) x y)
  | [.tup x, .tup y] => some (List.zipWith (fun a b => .tup [a, b]) x y)
  | _ => none
def enumFrom (n : Nat) : List D → List D
  | [] => []
  | x :: r => .tup [.int n, x] :: enumFrom (n + 1) r

/-! ### the Core -/
inductive Tg where
  | nm (i : Nat) | tp2 (a b : Tg) | tp3 (a b c : Tg)
mutual
inductive Xp where
  | var (i : Nat) | bvar (i : Nat) | lit (d : D) | gv (n : Nat)
  | bin (o : Bop) (a b : Xp) | neg (a : Xp) | nt (a : Xp) | and_ (a b : Xp) | or_ (a b : Xp) | one (a : Xp)
  | ife (c a b : Xp) | cmp (o : Cop) (a b : Xp) | chn (o p : Cop) (a b c : Xp)
  | tup (es : Xps) | lst (es : Xps) | sub (a i : Xp) | sli (a : Xp) (lo hi : Xpo) | rev (a : Xp) | dct0 | dlit (x : List Nat) (d : D)
  | call (f : Nat) (es : Xps) | callk (f : Nat) (es ks : Xps) (perm : List Nat)
  | bi (b : BI) (es : Xps) | isi (a : Xp) (t : Ty) | mt (m : MT) (a : Xp) (es : Xps)
  | lc (e : Xp) (own : List Nat) (t : Tg) (it : Iq) (c : Xpo)
  | lstI (a : Xp) | tupI (a : Xp)
  | pub (e : Xp) | rd (e : Xp) | dsp (es : Xps) | dspT (k v : Xp) | dctT
  | cmpX (o : Cop) (a b : Xp) | rpr (a : Xp)
  | nev | fnv (k : Nat) | cfv (a : Xp) (ar : List Nat) (es : Xps) | isx (a : Xp) (c : Nat) | isv (a : Xp) | xval (a : Xp) | isi2 (a : Xp) (t u : Ty)
  | lcR (e : Xp) (own : List Nat) (t : Tg) (a : Xp) (c : Xpo) | lcZ (e : Xp) (own : List Nat) (t : Tg) (ab : Xps) (c : Xpo) | lrg (es : Xps) | dgt (a k v : Xp) | lcD (e : Xp) (own : List Nat) (t : Tg) (i : Nat) (c : Xpo)
inductive Xpo where
  | none | some (e : Xp)
inductive Xps where
  | nil | cons (e : Xp) (r : Xps)
inductive Iq where
  | seq (e : Xp) | rng (es : Xps) | zip (es : Xps) | enm (e : Xp) | rvs (e : Xp)
end
inductive Slot where
  | un | val (d : D) | own (d : D)
  deriving Inhabited
def Slot.get : Slot → Option D
  | .un => none
  | .val d => some d
  | .own d => some d
abbrev Sg := List Slot
def setT : Tg → D → Sg → Option Sg
  | .nm i, d, σ => some (σ.set i (.val d))
  | .tp2 a b, .tup [x, y], σ => (setT a x σ).bind (setT b y)
  | .tp3 a b c, .tup [x, y, z], σ => ((setT a x σ).bind (setT b y)).bind (setT c z)
  | _, _, _ => none
def wipeG (σ : Sg) : List Nat → Sg
  | [] => σ
  | v :: vs => (wipeG σ vs).set v .un
/-- what the evaluator leans on: the defs called (by number), the module's constants -/
structure Env where
  fn : Nat → List D → List D → R D
  gv : Nat → Option D
def lcGo (f : D → List D → R (List D)) : List D → List D → R (List D)
  | [], S => .ok [] S
  | x :: xs, S => (f x S).bnd fun ys S1 => (lcGo f xs S1).bnd fun zs S2 => .ok (ys ++ zs) S2
/-- a walk over a shared list, read at each turn -/
def nxL (xs : List D) (i : Nat) : Option D := xs[i]?
def nxZ (ys xs : List D) (i : Nat) : Option D := match xs[i]?, ys[i]? with
  | some a, some b => some (.tup [a, b])
  | _, _ => none
def lcGoX (nx : List D → Nat → Option D) (f : D → List D → R (List D)) (n : Nat) : Nat → Nat → List D → R (List D)
  | 0, _, _ => .stuck
  | k + 1, i, S => match S[n]? with
    | some (.lst xs) => (match nx xs i with
      | some x => (f x S).bnd fun ys S1 => (lcGoX nx f n k (i + 1) S1).bnd fun zs S2 => .ok (ys ++ zs) S2
      | none => .ok [] S)
    | _ => .stuck
/-- d.get(k, v) -/
def dgtD (ks vs : List D) (k v : D) : Option D := if kmOk ks k = true ∧ flatD v = true then some ((dget ks vs k).getD v) else none
mutual
def evE (G : Env) : Xp → Sg → List D → R D
  | .var i, σ, S => match σ[i]? with | some (.val d) => .ok d S | _ => .stuck
  | .bvar i, σ, S => R.lif ((σ[i]?).bind Slot.get) S
  | .lit d, _, S => .ok d S
  | .gv n, _, S => R.lif (G.gv n) S
  | .bin o a b, σ, S => (evE G a σ S).bnd fun x S1 => (evE G b σ S1).bnd fun y S2 => R.lif (bopD o x y) S2
  | .neg a, σ, S => (evE G a σ S).bnd fun x S1 => match x with | .int i => .ok (.int (-i)) S1 | _ => .stuck
  | .nt a, σ, S => (evE G a σ S).bnd fun x S1 => match x with | .bl b => .ok (.bl (!b)) S1 | _ => .stuck
  | .and_ a b, σ, S => (evE G a σ S).bnd fun x S1 => match x with | .bl true => evE G b σ S1 | .bl false => .ok (.bl false) S1 | _ => .stuck
  | .or_ a b, σ, S => (evE G a σ S).bnd fun x S1 => match x with | .bl false => evE G b σ S1 | .bl true => .ok (.bl true) S1 | _ => .stuck
  | .one a, σ, S => evE G a σ S
  | .ife c a b, σ, S => (evT G c σ S).bnd fun k S1 => if k = true then evE G a σ S1 else evE G b σ S1
  | .cmp o a b, σ, S => (evE G a σ S).bnd fun x S1 => (evE G b σ S1).bnd fun y S2 => R.lif ((copD o x y).map .bl) S2
  | .chn o p a b c, σ, S => (evE G a σ S).bnd fun x S1 => (evE G b σ S1).bnd fun y S2 => (R.lif (copD o x y) S2).bnd fun k S3 =>
      if k = true then (evE G c σ S3).bnd fun z S4 => R.lif ((copD p y z).map .bl) S4 else .ok (.bl false) S3
  | .tup es, σ, S => (evEs G es σ S).bnd fun xs S1 => if xs.length ≤ SZ then .ok (.tup xs) S1 else .stuck
  | .lst es, σ, S => (evEs G es σ S).bnd fun xs S1 => if xs.length ≤ SZ then .ok (.lst xs) S1 else .stuck
  | .sub a i, σ, S => (evE G a σ S).bnd fun x S1 => (evE G i σ S1).bnd fun y S2 => R.lif (subD x y S2) S2
  | .sli a lo hi, σ, S => (evE G a σ S).bnd fun x S1 => (evO G lo σ S1).bnd fun l S2 => (evO G hi σ S2).bnd fun h S3 => R.lif (sliD x l h) S3
  | .rev a, σ, S => (evE G a σ S).bnd fun x S1 => R.lif (revD x) S1
  | .dct0, _, S => .ok (.dct [] []) S
  | .dlit x d, _, S => .ok (.dct [.str x] [d]) S
  | .call f es, σ, S => (evEs G es σ S).bnd fun xs S1 => G.fn f xs S1
  | .callk f es ks perm, σ, S => (evEs G es σ S).bnd fun xs S1 => (evEs G ks σ S1).bnd fun ys S2 => G.fn f (perm.map fun j => (xs ++ ys).getD j .non) S2
  | .bi b es, σ, S => (evEs G es σ S).bnd fun xs S1 => R.lif (biD b xs) S1
  | .isi a t, σ, S => (evE G a σ S).bnd fun x S1 => R.lif ((tyD t x).map .bl) S1
  | .mt m a es, σ, S => (evE G a σ S).bnd fun x S1 => if mtOk m x = true then (evEs G es σ S1).bnd fun xs S2 => R.lif (mtD m x xs) S2 else .stuck
  | .lc e own t it c, σ, S => (evI G it σ S).bnd fun xs S1 => (lcGo (fun x S => match setT t x (wipeG σ own) with
      | none => .stuck
      | some σ1 => (evC G c σ1 S).bnd fun k S2 => if k = true then (R.nox (evE G e σ1 S2)).bnd fun y S3 => .ok [y] S3 else .ok [] S2) xs S1).bnd fun ys S2 => .ok (.lst ys) S2
  | .lstI a, σ, S => (evE G a σ S).bnd fun x S1 => R.lif ((lstD x).map .lst) S1
  | .tupI a, σ, S => (evE G a σ S).bnd fun x S1 => R.lif ((tupD x).map .tup) S1
  | .pub e, σ, S => (evE G e σ S).bnd fun x S1 => if obI x = true then .ok (.ref S1.length) (S1 ++ [x]) else .stuck
  | .rd e, σ, S => (evE G e σ S).bnd fun x S1 => R.lif (rdD S1 x) S1
  | .dsp es, σ, S => (evEs G es σ S).bnd fun xs S1 => R.lif (dspD xs) S1
  | .dspT k v, σ, S => (evE G k σ S).bnd fun x S1 => (evE G v σ S1).bnd fun y S2 => if isT x = true ∧ keyOk x = true then .ok (.dct [x] [y]) S2 else .stuck
  | .dctT, _, S => .ok dT0 S
  | .cmpX o a b, σ, S => (evE G a σ S).bnd fun x S1 => (evE G b σ S1).bnd fun y S2 => R.lif ((copD o (deepD S2 x) (deepD S2 y)).map .bl) S2
  | .rpr a, σ, S => (evE G a σ S).bnd fun x S1 => R.lif (biD .repr [deepD S1 x]) S1
  | .nev, _, _ => .stuck
  | .fnv k, _, S => .ok (.fn k) S
  | .cfv a ar es, σ, S => (evE G a σ S).bnd fun x S1 => match x with | .fn k => (evEs G es σ S1).bnd fun xs S2 => if ar[k]? = some xs.length then G.fn k xs S2 else .stuck | _ => .stuck
  | .isx a c, σ, S => (evE G a σ S).bnd fun x S1 => R.lif ((isxD c x).map .bl) S1
  | .isv a, σ, S => (evE G a σ S).bnd fun x S1 => R.lif ((isxD 0 x).map .bl) S1
  | .xval a, σ, S => (evE G a σ S).bnd fun x S1 => R.lif (xvalD x) S1
  | .isi2 a t u, σ, S => (evE G a σ S).bnd fun x S1 => R.lif ((tyD2 t u x).map .bl) S1
  | .lcR e own t a c, σ, S => (evE G a σ S).bnd fun x S1 => match x with
    | .ref n => (match S1[n]? with
      | some (.lst xs) => if xs.length < SZ then (lcGoX nxL (fun x S => match setT t x (wipeG σ own) with
        | none => .stuck
        | some σ1 => (evC G c σ1 S).bnd fun k S2 => if k = true then (R.nox (evE G e σ1 S2)).bnd fun y S3 => .ok [y] S3 else .ok [] S2) n (xs.length + 1) 0 S1).bnd fun ys S2 => .ok (.lst ys) S2 else .stuck
      | _ => .stuck)
    | _ => .stuck
  | .lcZ e own t ab c, σ, S => (evEs G ab σ S).bnd fun ds S1 => match ds with
    | [.ref n, .lst ys] => (match S1[n]? with
      | some (.lst xs) => if xs.length < SZ then (lcGoX (nxZ ys) (fun x S => match setT t x (wipeG σ own) with
        | none => .stuck
        | some σ1 => (evC G c σ1 S).bnd fun k S2 => if k = true then (R.nox (evE G e σ1 S2)).bnd fun y S3 => .ok [y] S3 else .ok [] S2) n (xs.length + 1) 0 S1).bnd fun ys S2 => .ok (.lst ys) S2 else .stuck
      | _ => .stuck)
    | [.lst xs, .lst ys] => (lcGo (fun x S => match setT t x (wipeG σ own) with
        | none => .stuck
        | some σ1 => (evC G c σ1 S).bnd fun k S2 => if k = true then (R.nox (evE G e σ1 S2)).bnd fun y S3 => .ok [y] S3 else .ok [] S2) (List.zipWith (fun a b => .tup [a, b]) xs ys) S1).bnd fun ys S2 => .ok (.lst ys) S2
    | _ => .stuck
  | .lcD e own t i c, σ, S => match σ[i]? with
    | some (.val (.dct ks _)) => if ks.all isK = true ∧ ks.length ≤ SZ then (lcGo (fun x S => match setT t x (wipeG σ own) with
        | none => .stuck
        | some σ1 => (evC G c σ1 S).bnd fun k S2 => if k = true then (R.nox (evE G e σ1 S2)).bnd fun y S3 => .ok [y] S3 else .ok [] S2) ks S).bnd fun ys S2 => .ok (.lst ys) S2 else .stuck
    | some (.own (.dct ks ws)) => if ks.all isK = true ∧ ks.length ≤ SZ then (lcGo (fun x S => match setT t x (wipeG (σ.set i (.val (.dct ks ws))) own) with
        | none => .stuck
        | some σ1 => (evC G c σ1 S).bnd fun k S2 => if k = true then (R.nox (evE G e σ1 S2)).bnd fun y S3 => .ok [y] S3 else .ok [] S2) ks S).bnd fun ys S2 => if immDs ys = true then .ok (.lst ys) S2 else .stuck else .stuck
    | _ => .stuck
  | .lrg es, σ, S => (evEs G es σ S).bnd fun xs S1 => R.lif ((rangeD xs).map .lst) S1
  | .dgt a k v, σ, S => (evE G a σ S).bnd fun x S1 => match x with
    | .dct ks vs => (evE G k σ S1).bnd fun y S2 => (evE G v σ S2).bnd fun w S3 => R.lif (dgtD ks vs y w) S3
    | _ => .stuck
def evT (G : Env) : Xp → Sg → List D → R Bool
  | .nt a, σ, S => (evT G a σ S).bnd fun k S1 => .ok (!k) S1
  | .and_ a b, σ, S => (evT G a σ S).bnd fun k S1 => if k = true then evT G b σ S1 else .ok false S1
  | .or_ a b, σ, S => (evT G a σ S).bnd fun k S1 => if k = true then .ok true S1 else evT G b σ S1
  | .one a, σ, S => evT G a σ S
  | .cmp o a b, σ, S => (evE G a σ S).bnd fun x S1 => (evE G b σ S1).bnd fun y S2 => R.lif (copD o x y) S2
  | .chn o p a b c, σ, S => (evE G a σ S).bnd fun x S1 => (evE G b σ S1).bnd fun y S2 => (R.lif (copD o x y) S2).bnd fun k S3 =>
      if k = true then (evE G c σ S3).bnd fun z S4 => R.lif (copD p y z) S4 else .ok false S3
  | .cmpX o a b, σ, S => (evE G a σ S).bnd fun x S1 => (evE G b σ S1).bnd fun y S2 => R.lif (copD o (deepD S2 x) (deepD S2 y)) S2
  | .var i, σ, S => match σ[i]? with | some (.val d) => R.lif (truthy d) S | _ => .stuck
  | .bvar i, σ, S => R.lif (((σ[i]?).bind Slot.get).bind truthy) S
  | .call f es, σ, S => (evEs G es σ S).bnd fun xs S1 => (G.fn f xs S1).bnd fun x S2 => R.lif (truthy x) S2
  | .bi b es, σ, S => (evEs G es σ S).bnd fun xs S1 => R.lif ((biD b xs).bind truthy) S1
  | .isi a t, σ, S => (evE G a σ S).bnd fun x S1 => R.lif (tyD t x) S1
  | .sub a i, σ, S => (evE G a σ S).bnd fun x S1 => (evE G i σ S1).bnd fun y S2 => R.lif ((subD x y S2).bind truthy) S2
  | .isx a c, σ, S => (evE G a σ S).bnd fun x S1 => R.lif (isxD c x) S1
  | .isv a, σ, S => (evE G a σ S).bnd fun x S1 => R.lif (isxD 0 x) S1
  | .isi2 a t u, σ, S => (evE G a σ S).bnd fun x S1 => R.lif (tyD2 t u x) S1
  | .cfv a ar es, σ, S => ((evE G a σ S).bnd fun x S1 => match x with | .fn k => (evEs G es σ S1).bnd fun xs S2 => if ar[k]? = some xs.length then G.fn k xs S2 else .stuck | _ => .stuck).bnd fun y S3 => R.lif (truthy y) S3
  | _, _, _ => .stuck
def evC (G : Env) : Xpo → Sg → List D → R Bool
  | .none, _, S => .ok true S
  | .some c, σ, S => R.nox (evT G c σ S)
def evO (G : Env) : Xpo → Sg → List D → R (Option Int)
  | .none, _, S => .ok none S
  | .some e, σ, S => (evE G e σ S).bnd fun x S1 => match x with | .int i => .ok (some i) S1 | _ => .stuck
def evEs (G : Env) : Xps → Sg → List D → R (List D)
  | .nil, _, S => .ok [] S
  | .cons e r, σ, S => (evE G e σ S).bnd fun x S1 => (evEs G r σ S1).bnd fun xs S2 => .ok (x :: xs) S2
def evI (G : Env) : Iq → Sg → List D → R (List D)
  | .seq e, σ, S => (evE G e σ S).bnd fun x S1 => R.lif (iterD x) S1
  | .rng es, σ, S => (evEs G es σ S).bnd fun xs S1 => R.lif (rangeD xs) S1
  | .zip es, σ, S => (evEs G es σ S).bnd fun xs S1 => R.lif (zipD xs) S1
  | .enm e, σ, S => (evE G e σ S).bnd fun x S1 => match x with | .lst xs => .ok (enumFrom 0 xs) S1 | .str x => .ok (enumFrom 0 (x.map fun c => .str [c])) S1 | _ => .stuck
  | .rvs e, σ, S => (evE G e σ S).bnd fun x S1 => R.lif ((revD x).bind iterD) S1
end

/-! ### statements -/
inductive Fl where
  | nx | bk | ct | rt (d : D) | xc (e : D)
mutual
inductive Sm where
  | asg (t : Tg) (e : Xp) | asgO (i : Nat) (e : Xp) | par (ts : List Nat) (es : Xps) | parO (i j : Nat) (a b : Xp) | parP (i j : Nat) (a b : Xp) | aug (i : Nat) (e : Xp)
  | exp (e : Xp) | app (i : Nat) (e : Xp) | ext (i : Nat) (e : Xp) | ins (i : Nat) (k e : Xp) | putO (i : Nat) (k e : Xp) | appR (a e : Xp) | popO (j i : Nat) | asb (i : Nat) (e : Xp) | putR (a k e : Xp) | newR (i : Nat) (e : Xp) | frz (i : Nat)
  | ife (c : Xp) (a b : Sms) | for_ (t : Tg) (it : Iq) (b : Sms) | whl (c : Xp) (b : Sms)
  | ret (e : Xp) | retR (e : Xp) | retN | brk | cnt | pas | never
  | rse (c : Nat) (e : Xp) | tryA (b : Sms) (c i j : Nat) | appP (i j : Nat) (e : Xp) | parQ (i j : Nat) (a b : Xp) | popK (j i : Nat) (e : Xp)
inductive Sms where
  | nil | cons (s : Sm) (r : Sms)
end
/-- a value is had, or the exception ends the statement -/
def R.gt {α : Type} (m : R α) (σ : Sg) (f : α → List D → R (Fl × Sg)) : R (Fl × Sg) :=
  match m with
  | .ok a S => f a S
  | .exc e S => .ok (.xc e, σ) S
  | .stuck => .stuck
@[simp] theorem R.gt_ok {α : Type} (a : α) (S : List D) (σ : Sg) (f : α → List D → R (Fl × Sg)) : R.gt (.ok a S) σ f = f a S := id rfl
@[simp] theorem R.gt_exc {α : Type} (e : D) (S : List D) (σ : Sg) (f : α → List D → R (Fl × Sg)) : R.gt (.exc e S : R α) σ f = .ok (.xc e, σ) S := id rfl
@[simp] theorem R.gt_stuck {α : Type} (σ : Sg) (f : α → List D → R (Fl × Sg)) : R.gt (.stuck : R α) σ f = .stuck := id rfl
def isOb : D → Bool
  | .lst _ | .dct _ _ => true
  | _ => false
def forGo (t : Tg) (f : Sg → List D → R (Fl × Sg)) : List D → Sg → List D → R (Fl × Sg)
  | [], σ, S => .ok (.nx, σ) S
  | x :: xs, σ, S => match setT t x σ with
    | none => .stuck
    | some σ1 => (f σ1 S).bnd fun r S1 => match r.1 with
      | .nx => forGo t f xs r.2 S1
      | .ct => forGo t f xs r.2 S1
      | .bk => .ok (.nx, r.2) S1
      | .rt d => .ok (.rt d, r.2) S1
      | .xc d => .ok (.xc d, r.2) S1
def whlGo (c : Sg → List D → R Bool) (f : Sg → List D → R (Fl × Sg)) : Nat → Sg → List D → R (Fl × Sg)
  | 0, _, _ => .stuck
  | n + 1, σ, S => (c σ S).gt σ fun k S1 => if k = true then (f σ S1).bnd fun r S2 => match r.1 with
      | .nx => whlGo c f n r.2 S2
      | .ct => whlGo c f n r.2 S2
      | .bk => .ok (.nx, r.2) S2
      | .rt d => .ok (.rt d, r.2) S2
      | .xc d => .ok (.xc d, r.2) S2
    else .ok (.nx, σ) S1
def setPar : List Nat → List D → Sg → Option Sg
  | [], [], σ => some σ
  | i :: ts, d :: ds, σ => setPar ts ds (σ.set i (.val d))
  | _, _, _ => none
/-- how many turns a while may take here -/
def turns : Nat := 1000000000
mutual
def exS (G : Env) : Sm → Sg → List D → R (Fl × Sg)
  | .asg t e, σ, S => (evE G e σ S).gt σ fun x S1 => match setT t x σ with | some σ1 => .ok (.nx, σ1) S1 | none => .stuck
  | .asgO i e, σ, S => (evE G e σ S).gt σ fun x S1 => if isOb x = true then .ok (.nx, σ.set i (.own x)) S1 else .stuck
  | .par ts es, σ, S => (evEs G es σ S).gt σ fun xs S1 => match setPar ts xs σ with | some σ1 => .ok (.nx, σ1) S1 | none => .stuck
  | .parO i j a b, σ, S => (evE G a σ S).gt σ fun x S1 => (evE G b σ S1).gt σ fun y S2 => if isOb y = true then .ok (.nx, (σ.set i (.val x)).set j (.own y)) S2 else .stuck
  | .parP i j a b, σ, S => (evE G a σ S).gt σ fun x S1 => (evE G b σ S1).gt σ fun y S2 => if isOb x = true ∧ i ≠ j then .ok (.nx, (σ.set i (.own x)).set j (.val y)) S2 else .stuck
  | .aug i e, σ, S => match σ[i]? with
    | some (.val (.int a)) => (evE G e σ S).gt σ fun y S1 => match y with
      | .int b => .ok (.nx, σ.set i (.val (.int (a + b)))) S1
      | _ => .stuck
    | _ => .stuck
  | .exp e, σ, S => (evE G e σ S).gt σ fun _ S1 => .ok (.nx, σ) S1
  | .app i e, σ, S => match σ[i]? with
    | some (.own (.lst xs)) => (evE G e σ S).gt σ fun y S1 => if xs.length < SZ then .ok (.nx, σ.set i (.own (.lst (xs ++ [y])))) S1 else .stuck
    | _ => .stuck
  | .ext i e, σ, S => match σ[i]? with
    | some (.own (.lst xs)) => (evE G e σ S).gt σ fun y S1 => match extD (.lst xs) y with | some d' => .ok (.nx, σ.set i (.own d')) S1 | none => .stuck
    | _ => .stuck
  | .ins i k e, σ, S => match σ[i]? with
    | some (.own (.lst xs)) => (evE G k σ S).gt σ fun x S1 => (evE G e σ S1).gt σ fun y S2 => match insD (.lst xs) x y with | some d' => .ok (.nx, σ.set i (.own d')) S2 | none => .stuck
    | _ => .stuck
  | .putO i k e, σ, S => (evE G e σ S).gt σ fun y S1 => match σ[i]? with
    | some (.own d) => (evE G k σ S1).gt σ fun x S2 => (match setD d x y with | some d' => .ok (.nx, σ.set i (.own d')) S2 | none => .stuck)
    | _ => .stuck
  | .appR a e, σ, S => (evE G a σ S).gt σ fun x S1 => match x with
    | .ref n => (match S1[n]? with
      | some (.lst _) => (evE G e σ S1).gt σ fun y S2 => (match S2[n]? with
        | some (.lst xs) => if xs.length < SZ ∧ immD y = true then .ok (.nx, σ) (S2.set n (.lst (xs ++ [y]))) else .stuck
        | _ => .stuck)
      | _ => .stuck)
    | _ => .stuck
  | .popO j i, σ, S => match σ[i]? with
    | some (.own d) => (match popD d with | some (y, d') => if j = i then .stuck else .ok (.nx, (σ.set i (.own d')).set j (.val y)) S | none => .stuck)
    | _ => .stuck
  | .asb i e, σ, S => match σ[i]? with
    | some (.val (.int a)) => (evE G e σ S).gt σ fun y S1 => match y with
      | .int b => .ok (.nx, σ.set i (.val (.int (a - b)))) S1
      | _ => .stuck
    | _ => .stuck
  | .putR a k e, σ, S => (evE G e σ S).gt σ fun y S1 => (evE G a σ S1).gt σ fun x S2 => (evE G k σ S2).gt σ fun i S3 => match x with
    | .ref n => (match (S3[n]?).bind fun d => setD d i y with
      | some d' => if immD y = true then .ok (.nx, σ) (S3.set n d') else .stuck
      | none => .stuck)
    | _ => .stuck
  | .newR i e, σ, S => (evE G e σ S).gt σ fun x S1 => if obI x = true then .ok (.nx, σ.set i (.val (.ref S1.length))) (S1 ++ [x]) else .stuck
  | .frz i, σ, S => match σ[i]? with | some (.own d) => .ok (.nx, σ.set i (.val d)) S | _ => .ok (.nx, σ) S
  | .ife c a b, σ, S => (evT G c σ S).gt σ fun k S1 => if k = true then exSs G a σ S1 else exSs G b σ S1
  | .for_ t it b, σ, S => (evI G it σ S).gt σ fun xs S1 => forGo t (fun σ S => exSs G b σ S) xs σ S1
  | .whl c b, σ, S => whlGo (fun σ S => evT G c σ S) (fun σ S => exSs G b σ S) turns σ S
  | .ret e, σ, S => (evE G e σ S).gt σ fun x S1 => .ok (.rt x, σ) S1
  | .retR e, σ, S => (evE G e σ S).gt σ fun x S1 => if obI x = true then .ok (.rt (.ref S1.length), σ) (S1 ++ [x]) else .stuck
  | .retN, σ, S => .ok (.rt .non, σ) S
  | .brk, σ, S => .ok (.bk, σ) S
  | .cnt, σ, S => .ok (.ct, σ) S
  | .pas, σ, S => .ok (.nx, σ) S
  | .never, _, _ => .stuck
  | .rse c e, σ, S => (evE G e σ S).gt σ fun x S1 => .ok (.xc (.exc c [x]), σ) S1
  | .tryA b c i j, σ, S => match exSs G b σ S with
    | .ok (.xc (.exc d fs), σ1) S1 => if c = 0 ∨ c = d then (if i = j then .stuck else .ok (.nx, (σ1.set j .un).set i (.val (.exc d fs))) S1) else .ok (.xc (.exc d fs), σ1) S1
    | .ok (.xc _, _) _ => .stuck
    | r => r
  | .appP i j e, σ, S => match σ[i]?, σ[j]? with
    | some (.own (.lst xs)), some (.own (.lst ys)) => (evE G e σ S).gt σ fun k S1 => match k with
      | .int k => if xs.length < SZ ∧ i ≠ j then (match popKD ys k with | some (y, ys') => .ok (.nx, (σ.set j (.own (.lst ys'))).set i (.own (.lst (xs ++ [y])))) S1 | none => .stuck) else .stuck
      | _ => .stuck
    | _, _ => .stuck
  | .parQ i j a b, σ, S => (evE G a σ S).gt σ fun x S1 => (evE G b σ S1).gt σ fun y S2 => if isOb x = true ∧ isOb y = true ∧ i ≠ j then .ok (.nx, (σ.set i (.own x)).set j (.own y)) S2 else .stuck
  | .popK j i e, σ, S => match σ[i]? with
    | some (.own (.lst ys)) => (evE G e σ S).gt σ fun k S1 => match k with
      | .int k => if j ≠ i then (match popKD ys k with | some (y, ys') => .ok (.nx, (σ.set i (.own (.lst ys'))).set j (.val y)) S1 | none => .stuck) else .stuck
      | _ => .stuck
    | _ => .stuck
def exSs (G : Env) : Sms → Sg → List D → R (Fl × Sg)
  | .nil, σ, S => .ok (.nx, σ) S
  | .cons s r, σ, S => (exS G s σ S).bnd fun q S1 => match q.1 with
    | .nx => exSs G r q.2 S1
    | .bk => .ok (.bk, q.2) S1
    | .ct => .ok (.ct, q.2) S1
    | .rt d => .ok (.rt d, q.2) S1
    | .xc d => .ok (.xc d, q.2) S1
end
/-- a def's run: n slots, its parameters first -/
def endR : R (Fl × Sg) → R D
  | .ok (.nx, _) S => .ok .non S
  | .ok (.rt d, _) S => .ok d S
  | .ok (.xc e, _) S => .exc e S
  | _ => .stuck
def runF (G : Env) (n : Nat) (b : Sms) (ds : List D) (S : List D) : R D := endR (exSs G b (ds.map .val ++ List.replicate (n - ds.length) .un) S)
/-- the callees in a row; the constants in a row -/
def fnT (l : List (List D → List D → R D)) (n : Nat) : List D → List D → R D := l.getD n fun _ _ => .stuck
def gvT (l : List D) (n : Nat) : Option D := l[n]?
def lcF (G : Env) (e : Xp) (own : List Nat) (t : Tg) (c : Xpo) (σ : Sg) : D → List D → R (List D) := fun x S => match setT t x (wipeG σ own) with
  | none => .stuck
  | some σ1 => (evC G c σ1 S).bnd fun k S2 => if k = true then (R.nox (evE G e σ1 S2)).bnd fun y S3 => .ok [y] S3 else .ok [] S2
theorem evE_lcR (G : Env) (e : Xp) (own : List Nat) (t : Tg) (a : Xp) (c : Xpo) (σ : Sg) (S : List D) : evE G (.lcR e own t a c) σ S = (evE G a σ S).bnd fun x S1 => match x with
    | .ref n => (match S1[n]? with
      | some (.lst xs) => if xs.length < SZ then (lcGoX nxL (lcF G e own t c σ) n (xs.length + 1) 0 S1).bnd fun ys S2 => .ok (.lst ys) S2 else .stuck
      | _ => .stuck)
    | _ => .stuck := by
  rw [evE]
  rfl
theorem evE_lcZ (G : Env) (e : Xp) (own : List Nat) (t : Tg) (ab : Xps) (c : Xpo) (σ : Sg) (S : List D) : evE G (.lcZ e own t ab c) σ S = (evEs G ab σ S).bnd fun ds S1 => match ds with
    | [.ref n, .lst ys] => (match S1[n]? with
      | some (.lst xs) => if xs.length < SZ then (lcGoX (nxZ ys) (lcF G e own t c σ) n (xs.length + 1) 0 S1).bnd fun ys S2 => .ok (.lst ys) S2 else .stuck
      | _ => .stuck)
    | [.lst xs, .lst ys] => (lcGo (lcF G e own t c σ) (List.zipWith (fun a b => .tup [a, b]) xs ys) S1).bnd fun ys S2 => .ok (.lst ys) S2
    | _ => .stuck := by
  rw [evE]
  rfl
def dcRun (G : Env) (e : Xp) (own : List Nat) (t : Tg) (i : Nat) (c : Xpo) (σ : Sg) (S : List D) : R D := match σ[i]? with
  | some (.val (.dct ks _)) => if ks.all isK = true ∧ ks.length ≤ SZ then (lcGo (lcF G e own t c σ) ks S).bnd fun ys S2 => .ok (.lst ys) S2 else .stuck
  | some (.own (.dct ks ws)) => if ks.all isK = true ∧ ks.length ≤ SZ then (lcGo (lcF G e own t c (σ.set i (.val (.dct ks ws)))) ks S).bnd fun ys S2 => if immDs ys = true then .ok (.lst ys) S2 else .stuck else .stuck
  | _ => .stuck
theorem evE_lcD (G : Env) (e : Xp) (own : List Nat) (t : Tg) (i : Nat) (c : Xpo) (σ : Sg) (S : List D) : evE G (.lcD e own t i c) σ S = dcRun G e own t i c σ S := by
  rw [evE]
  rfl
theorem evE_lc (G : Env) (e : Xp) (own : List Nat) (t : Tg) (it : Iq) (c : Xpo) (σ : Sg) (S : List D) : evE G (.lc e own t it c) σ S = (evI G it σ S).bnd fun xs S1 => (lcGo (lcF G e own t c σ) xs S1).bnd fun ys S2 => .ok (.lst ys) S2 := by
  rw [evE]
  rfl
end PV

/-! ## PV: how plain data lies in the abstract heap -/
namespace PV
open PySem PySem.Spec PyProof.Rows L2

def keyD : Key → D
  | .inl i => .int i
  | .inr x => .str x.cps.toList
/-- what numbers of defs and classes stand for -/
structure Nm where
  K : PySem.W.Frag
  fn : Nat → Option V
  cls : Nat → Option (Addr × List Str)
abbrev Adr := Addr → Prop

/-- a text that the model carries -/
structure Good (x : List Nat) : Prop where
  len : x.length ≤ sizeLine
  ok : ∀ c ∈ x, c < 1114112
def KeyG : Key → Prop
  | .inl _ => True
  | .inr x => Good x.cps.toList
/-- the keys of a dict whose keys are tuples -/
def tks (kvs : List (List Key × V)) : List D := if kvs.isEmpty then [.tup []] else kvs.map fun p => .tup (p.1.map keyD)
def DR (H : Hp) (a : Addr) (ks : List D) (vs : List V) : Prop :=
  (∃ kvs : List (Key × V), Rd H a (.dK kvs) ∧ ks = kvs.map (fun p => keyD p.1) ∧ vs = kvs.map (·.2) ∧ ∀ p ∈ kvs, KeyG p.1) ∨
    ∃ kvs : List (List Key × V), Rd H a (.dT kvs) ∧ ks = tks kvs ∧ vs = kvs.map (·.2) ∧ ∀ p ∈ kvs, ∀ k ∈ p.1, KeyG k
/-- an exception of the class at C that was caught, its dict at dx -/
def ExZ (C dx a : Addr) : HO := .ext fun h => ∃ (oe : Obj) (vs : Array Value), h.get? a = some oe ∧ Zc (.ref C) (some dx) oe ∧ oe.data = .fields vs
mutual
def VR (M : Nm) (ags : List Addr) (Ex : Adr) (H : Hp) : D → V → Prop
  | .non, v => v = .non
  | .bl b, v => v = .bl b
  | .int i, v => v = .int i
  | .str x, v => v = .str ⟨x.toArray⟩ ∧ Good x
  | .lst ds, v => ∃ a vs, v = .ref a ∧ ¬ Ex a ∧ H a = some (.lst vs) ∧ VRs M ags Ex H ds vs
  | .tup ds, v => ∃ a vs, v = .ref a ∧ ¬ Ex a ∧ H a = some (.tup vs) ∧ VRs M ags Ex H ds vs
  | .dct ks ws, v => ∃ a vs, v = .ref a ∧ ¬ Ex a ∧ VRs M ags Ex H ws vs ∧ DR H a ks vs
  | .exc c fs, v => ∃ C ns us a dx, M.cls c = some (C, ns) ∧ v = .ref a ∧ ¬ Ex a ∧ H a = some (ExZ C dx a) ∧ ¬ Ex dx ∧ H dx = some (.xd (ns.zip us)) ∧ ns.length = us.length ∧ VRs M ags Ex H fs us
  | .fn n, v => M.fn n = some v
  | .ref n, v => ∃ a, ags[n]? = some a ∧ v = .ref a
  | .scr ns, v => (∃ a, v = .ref a ∧ ¬ Ex a ∧ H a ≠ none ∧ SqL M.K H a (ns.map .int)) ∨ ∃ a o its n, v = .ref a ∧ M.K.lookup a = some o ∧ o.cls = .type "list" ∧ o.dict = none ∧ o.data = .seq its n ∧ its.size ≤ sizeLine ∧ Vals (ns.map .int) its.toList
def VRs (M : Nm) (ags : List Addr) (Ex : Adr) (H : Hp) : List D → List V → Prop
  | [], vs => vs = []
  | d :: ds, vs => ∃ v r, vs = v :: r ∧ VR M ags Ex H d v ∧ VRs M ags Ex H ds r
end
/-- what stands at an address that one alone may write -/
def OwnR (M : Nm) (ags : List Addr) (Ex : Adr) (H : Hp) : D → Addr → Prop
  | .lst ds, a => ∃ vs, H a = some (.lst vs) ∧ VRs M ags Ex H ds vs
  | .dct ks ws, a => ∃ vs, VRs M ags Ex H ws vs ∧ ((∃ kvs, H a = some (.dK kvs)) ∨ ∃ kvs, H a = some (.dT kvs)) ∧ DR H a ks vs
  | _, _ => False

/-- how the world may go on: no prior thing but the excepted ones is changed; what is newly excepted is new -/
structure Le (ags : List Addr) (Ex : Adr) (H : Hp) (ags' : List Addr) (Ex' : Adr) (H' : Hp) : Prop where
  pre : ags <+: ags'
  ex : ∀ a, H a ≠ none → Ex' a → Ex a
  same : ∀ a o, ¬ Ex a → H a = some o → H' a = some o
section
variable {M : Nm} {ags ags' : List Addr} {Ex Ex' : Adr} {H H' : Hp}
theorem Rd.ne {a : Addr} {u : HO} (h : Rd H a u) : H a ≠ none := by
  rcases h with h | ⟨o, h⟩ <;> (rw [h]; intro z; cases z)
theorem Le.rd (l : Le ags Ex H ags' Ex' H') {a : Addr} {u : HO} (n : ¬ Ex a) (h : Rd H a u) : Rd H' a u := by
  rcases h with h | ⟨o, h⟩
  · exact .inl (l.same _ _ n h)
  · exact .inr ⟨o, l.same _ _ n h⟩
theorem Le.nex (l : Le ags Ex H ags' Ex' H') {a : Addr} {u : HO} (n : ¬ Ex a) (h : Rd H a u) : ¬ Ex' a := fun z => n (l.ex a (Rd.ne h) z)
theorem DR.rd {a : Addr} {ks : List D} {vs : List V} (h : DR H a ks vs) : ∃ u, Rd H a u := by
  rcases h with ⟨kvs, h, _⟩ | ⟨kvs, h, _⟩ <;> exact ⟨_, h⟩
theorem DR.le (l : Le ags Ex H ags' Ex' H') {a : Addr} {ks : List D} {vs : List V} (n : ¬ Ex a) (h : DR H a ks vs) : DR H' a ks vs := by
  rcases h with ⟨kvs, h, e⟩ | ⟨kvs, h, e⟩
  · exact .inl ⟨kvs, l.rd n h, e⟩
  · exact .inr ⟨kvs, l.rd n h, e⟩
theorem pre_get {α : Type} {xs ys : List α} (h : xs <+: ys) {i : Nat} {a : α} (e : xs[i]? = some a) : ys[i]? = some a := by
  obtain ⟨t, rfl⟩ := h
  have hi : i < xs.length := (List.getElem?_eq_some_iff.mp e).1
  rw [List.getElem?_append_left hi]; exact e
mutual
theorem VR.le (l : Le ags Ex H ags' Ex' H') : ∀ (d : D) (v : V), VR M ags Ex H d v → VR M ags' Ex' H' d v
  | .non, _, h => h
  | .bl _, _, h => h
  | .int _, _, h => h
  | .str _, _, h => h
  | .lst ds, v, h => by
    obtain ⟨a, vs, e, n, r, q⟩ := h
    exact ⟨a, vs, e, l.nex n (.inl r), l.same _ _ n r, VRs.le l ds vs q⟩
  | .tup ds, v, h => by
    obtain ⟨a, vs, e, n, r, q⟩ := h
    exact ⟨a, vs, e, l.nex n (.inl r), l.same _ _ n r, VRs.le l ds vs q⟩
  | .dct ks ws, v, h => by
    obtain ⟨a, vs, e, n, q, r⟩ := h
    obtain ⟨u, ru⟩ := r.rd
    exact ⟨a, vs, e, l.nex n ru, VRs.le l ws vs q, r.le l n⟩
  | .exc c fs, v, h => by
    obtain ⟨C, ns, us, a, dx, h1, h2, h3, h4, h5, h6, h7, h8⟩ := h
    exact ⟨C, ns, us, a, dx, h1, h2, l.nex h3 (.inl h4), l.same _ _ h3 h4, l.nex h5 (.inl h6), l.same _ _ h5 h6, h7, VRs.le l fs us h8⟩
  | .fn _, _, h => h
  | .ref n, v, h => by
    obtain ⟨a, e, q⟩ := h
    exact ⟨a, pre_get l.pre e, q⟩
  | .scr ns, v, h => by
    rcases h with ⟨a, e, n, ne, q⟩ | h
    · obtain ⟨o, ho⟩ := Option.ne_none_iff_exists'.mp ne
      have e2 := l.same a o n ho
      refine .inl ⟨a, e, fun z => n (l.ex a ne z), by rw [e2]; simp, ?_⟩
      rcases q with (q | ⟨o', q⟩) | q
      · exact .inl (.inl (l.same _ _ n q))
      · exact .inl (.inr ⟨o', l.same _ _ n q⟩)
      · exact .inr q
    · exact .inr h
theorem VRs.le (l : Le ags Ex H ags' Ex' H') : ∀ (ds : List D) (vs : List V), VRs M ags Ex H ds vs → VRs M ags' Ex' H' ds vs
  | [], _, h => h
  | d :: ds, vs, h => by
    obtain ⟨v, r, e, h1, h2⟩ := h
    exact ⟨v, r, e, VR.le l d v h1, VRs.le l ds r h2⟩
end
theorem VRs.length : ∀ {ds : List D} {vs : List V}, VRs M ags Ex H ds vs → vs.length = ds.length
  | [], _, h => by cases (show _ = [] from h); rfl
  | d :: ds, _, h => by
    obtain ⟨v, r, rfl, _, h2⟩ := h
    simp [VRs.length h2]
theorem VRs.get : ∀ {ds : List D} {vs : List V} {i : Nat} {d : D}, VRs M ags Ex H ds vs → ds[i]? = some d → ∃ v, vs[i]? = some v ∧ VR M ags Ex H d v
  | [], _, _, _, _, e => by simp at e
  | d :: ds, _, 0, _, h, e => by
    obtain ⟨v, r, rfl, h1, _⟩ := h
    simp at e; subst e
    exact ⟨v, rfl, h1⟩
  | d :: ds, _, i + 1, _, h, e => by
    obtain ⟨v, r, rfl, _, h2⟩ := h
    obtain ⟨w, e1, q⟩ := VRs.get (i := i) h2 (by simpa using e)
    exact ⟨w, by simpa using e1, q⟩
theorem VRs.append : ∀ {ds es : List D} {vs ws : List V}, VRs M ags Ex H ds vs → VRs M ags Ex H es ws → VRs M ags Ex H (ds ++ es) (vs ++ ws)
  | [], _, _, _, h, k => by cases (show _ = [] from h); exact k
  | d :: ds, _, _, _, h, k => by
    obtain ⟨v, r, rfl, h1, h2⟩ := h
    exact ⟨v, _, rfl, h1, VRs.append h2 k⟩
theorem VRs.take : ∀ {ds : List D} {vs : List V} (n : Nat), VRs M ags Ex H ds vs → VRs M ags Ex H (ds.take n) (vs.take n)
  | _, _, 0, _ => by simp; rfl
  | [], _, n + 1, h => by cases (show _ = [] from h); simp; rfl
  | d :: ds, _, n + 1, h => by
    obtain ⟨v, r, rfl, h1, h2⟩ := h
    exact ⟨v, _, rfl, h1, VRs.take n h2⟩
theorem VRs.drop : ∀ {ds : List D} {vs : List V} (n : Nat), VRs M ags Ex H ds vs → VRs M ags Ex H (ds.drop n) (vs.drop n)
  | _, _, 0, h => h
  | [], _, n + 1, h => by cases (show _ = [] from h); simp; rfl
  | d :: ds, _, n + 1, h => by
    obtain ⟨v, r, rfl, h1, h2⟩ := h
    simpa using VRs.drop n h2
theorem VRs.set : ∀ {ds : List D} {vs : List V} (n : Nat) {d : D} {v : V}, VRs M ags Ex H ds vs → VR M ags Ex H d v → VRs M ags Ex H (ds.set n d) (vs.set n v)
  | [], _, n, _, _, h, _ => by cases (show _ = [] from h); simp; rfl
  | d :: ds, _, 0, _, _, h, k => by
    obtain ⟨v, r, rfl, h1, h2⟩ := h
    exact ⟨_, r, rfl, k, h2⟩
  | d :: ds, _, n + 1, _, _, h, k => by
    obtain ⟨v, r, rfl, h1, h2⟩ := h
    exact ⟨v, _, rfl, h1, VRs.set n h2 k⟩
theorem VRs.one {d : D} {v : V} (h : VR M ags Ex H d v) : VRs M ags Ex H [d] [v] := ⟨v, [], rfl, h, rfl⟩
theorem VRs.ints : ∀ (ns : List Int), VRs M ags Ex H (ns.map .int) (ns.map .int)
  | [] => rfl
  | n :: r => ⟨_, _, rfl, rfl, VRs.ints r⟩
theorem VRs.intsOf : ∀ {ds : List D} {vs : List V} {ns : List Int}, VRs M ags Ex H ds vs → intsOf ds = some ns → vs = ns.map .int
  | [], _, _, h, e => by cases (show _ = [] from h); cases e; rfl
  | .int i :: ds, _, ns, h, e => by
    obtain ⟨v, r, rfl, h1, h2⟩ := h
    have e' : (PV.intsOf ds).map (i :: ·) = some ns := e
    obtain ⟨l, e1, rfl⟩ := Option.map_eq_some_iff.mp e'
    cases (show v = .int i from h1)
    rw [VRs.intsOf h2 e1]; rfl
  | .non :: ds, _, _, _, e => by cases e
  | .bl _ :: ds, _, _, _, e => by cases e
  | .str _ :: ds, _, _, _, e => by cases e
  | .lst _ :: ds, _, _, _, e => by cases e
  | .tup _ :: ds, _, _, _, e => by cases e
  | .dct _ _ :: ds, _, _, _, e => by cases e
  | .exc _ _ :: ds, _, _, _, e => by cases e
  | .fn _ :: ds, _, _, _, e => by cases e
  | .ref _ :: ds, _, _, _, e => by cases e
  | .scr _ :: ds, _, _, _, e => by cases e
theorem VRs.blsOf : ∀ {ds : List D} {vs : List V} {ns : List Bool}, VRs M ags Ex H ds vs → blsOf ds = some ns → vs = ns.map .bl
  | [], _, _, h, e => by cases (show _ = [] from h); cases e; rfl
  | .bl i :: ds, _, ns, h, e => by
    obtain ⟨v, r, rfl, h1, h2⟩ := h
    have e' : (PV.blsOf ds).map (i :: ·) = some ns := e
    obtain ⟨l, e1, rfl⟩ := Option.map_eq_some_iff.mp e'
    cases (show v = .bl i from h1)
    rw [VRs.blsOf h2 e1]; rfl
  | .non :: ds, _, _, _, e => by cases e
  | .int _ :: ds, _, _, _, e => by cases e
  | .str _ :: ds, _, _, _, e => by cases e
  | .lst _ :: ds, _, _, _, e => by cases e
  | .tup _ :: ds, _, _, _, e => by cases e
  | .dct _ _ :: ds, _, _, _, e => by cases e
  | .exc _ _ :: ds, _, _, _, e => by cases e
  | .fn _ :: ds, _, _, _, e => by cases e
  | .ref _ :: ds, _, _, _, e => by cases e
  | .scr _ :: ds, _, _, _, e => by cases e
theorem VRs.strsOf : ∀ {ds : List D} {vs : List V} {ns : List (List Nat)}, VRs M ags Ex H ds vs → strsOf ds = some ns → vs = ns.map (fun x => .str ⟨x.toArray⟩) ∧ ∀ x ∈ ns, Good x
  | [], _, _, h, e => by cases (show _ = [] from h); cases e; exact ⟨rfl, fun _ h => nomatch h⟩
  | .str i :: ds, _, ns, h, e => by
    obtain ⟨v, r, rfl, h1, h2⟩ := h
    have e' : (PV.strsOf ds).map (i :: ·) = some ns := e
    obtain ⟨l, e1, rfl⟩ := Option.map_eq_some_iff.mp e'
    obtain ⟨rfl, hz⟩ := (show v = .str ⟨i.toArray⟩ ∧ Good i from h1)
    obtain ⟨e2, hr⟩ := VRs.strsOf h2 e1
    rw [e2]
    exact ⟨rfl, fun x hx => (List.mem_cons.mp hx).elim (fun z => z ▸ hz) (hr x)⟩
  | .non :: ds, _, _, _, e => by cases e
  | .int _ :: ds, _, _, _, e => by cases e
  | .bl _ :: ds, _, _, _, e => by cases e
  | .lst _ :: ds, _, _, _, e => by cases e
  | .tup _ :: ds, _, _, _, e => by cases e
  | .dct _ _ :: ds, _, _, _, e => by cases e
  | .exc _ _ :: ds, _, _, _, e => by cases e
  | .fn _ :: ds, _, _, _, e => by cases e
  | .ref _ :: ds, _, _, _, e => by cases e
  | .scr _ :: ds, _, _, _, e => by cases e
theorem OwnR.ne {d : D} {a : Addr} (h : OwnR M ags Ex H d a) : H a ≠ none := by
  cases d with
  | lst ds => obtain ⟨vs, e, _⟩ := h; rw [e]; intro z; cases z
  | dct ks ws =>
    obtain ⟨vs, _, e, _⟩ := h
    rcases e with ⟨_, e⟩ | ⟨_, e⟩ <;> (rw [e]; intro z; cases z)
  | _ => exact False.elim h
/-- the own thing stands, what it holds goes on -/
theorem OwnR.le (l : Le ags Ex H ags' Ex' H') {d : D} {a : Addr} (e : H' a = H a) (h : OwnR M ags Ex H d a) : OwnR M ags' Ex' H' d a := by
  cases d with
  | lst ds =>
    obtain ⟨vs, q, r⟩ := h
    exact ⟨vs, e.trans q, VRs.le l _ _ r⟩
  | dct ks ws =>
    obtain ⟨vs, r, q, z⟩ := h
    refine ⟨vs, VRs.le l _ _ r, by rw [e]; exact q, ?_⟩
    have rd : ∀ u, Rd H a u → Rd H' a u := fun u z => by
      rcases z with z | ⟨o, z⟩
      · exact .inl (e.trans z)
      · exact .inr ⟨o, e.trans z⟩
    rcases z with ⟨kvs, h, e⟩ | ⟨kvs, h, e⟩
    · exact .inl ⟨kvs, rd _ h, e⟩
    · exact .inr ⟨kvs, rd _ h, e⟩
  | _ => exact h
/-- it becomes a thing that nobody writes -/
theorem OwnR.vr {d : D} {a : Addr} (n : ¬ Ex a) (h : OwnR M ags Ex H d a) : VR M ags Ex H d (.ref a) := by
  cases d with
  | lst ds => obtain ⟨vs, q, r⟩ := h; exact ⟨a, vs, rfl, n, q, r⟩
  | dct ks ws => obtain ⟨vs, r, _, z⟩ := h; exact ⟨a, vs, rfl, n, r, z⟩
  | _ => exact False.elim h
end

/-! ### lists and dicts -/
def Ob (H : Hp) (a : Addr) : Prop := (∃ vs, H a = some (.lst vs)) ∨ (∃ kvs, H a = some (.dK kvs)) ∨ ∃ kvs, H a = some (.dT kvs)
section
variable {M : Nm} {ags ags' : List Addr} {Ex Ex' : Adr} {H H' : Hp}
theorem Ob.ne {a : Addr} (h : Ob H a) : H a ≠ none := by
  rcases h with ⟨_, h⟩ | ⟨_, h⟩ | ⟨_, h⟩ <;> (rw [h]; intro z; cases z)
theorem Ob.tup {a : Addr} {vs : List V} (h : Ob H a) : H a ≠ some (.tup vs) := by
  rcases h with ⟨_, h⟩ | ⟨_, h⟩ | ⟨_, h⟩ <;> (rw [h]; intro z; cases z)
theorem Ob.eq {a : Addr} (h : Ob H a) (e : H' a = H a) : Ob H' a := by unfold Ob; rw [e]; exact h
theorem OwnR.ob {d : D} {a : Addr} (h : OwnR M ags Ex H d a) : Ob H a := by
  cases d with
  | lst ds => obtain ⟨vs, q, _⟩ := h; exact .inl ⟨vs, q⟩
  | dct ks ws =>
    obtain ⟨vs, _, q, _⟩ := h
    rcases q with q | q
    · exact .inr (.inl q)
    · exact .inr (.inr q)
  | _ => exact False.elim h
/-- what becomes of things without lists of their own -/
structure Tl (ags : List Addr) (H : Hp) (ags' : List Addr) (Ex' : Adr) (H' : Hp) : Prop where
  pre : ags <+: ags'
  tup : ∀ a vs, H a = some (.tup vs) → H' a = some (.tup vs) ∧ ¬ Ex' a
mutual
theorem VR.imm (t : Tl ags H ags' Ex' H') : ∀ (d : D) (v : V), immD d = true → VR M ags Ex H d v → VR M ags' Ex' H' d v
  | .non, _, _, h => h
  | .bl _, _, _, h => h
  | .int _, _, _, h => h
  | .str _, _, _, h => h
  | .tup ds, v, k, h => by
    obtain ⟨a, vs, e, n, r, q⟩ := h
    obtain ⟨t1, t2⟩ := t.tup a vs r
    exact ⟨a, vs, e, t2, t1, VRs.imm t ds vs k q⟩
  | .fn _, _, _, h => h
  | .ref n, v, _, h => by
    obtain ⟨a, e, q⟩ := h
    exact ⟨a, pre_get t.pre e, q⟩
  | .lst _, _, k, _ => by cases k
  | .dct _ _, _, k, _ => by cases k
  | .exc _ _, _, k, _ => by cases k
  | .scr _, _, k, _ => by cases k
theorem VRs.imm (t : Tl ags H ags' Ex' H') : ∀ (ds : List D) (vs : List V), immDs ds = true → VRs M ags Ex H ds vs → VRs M ags' Ex' H' ds vs
  | [], _, _, h => h
  | d :: ds, vs, k, h => by
    obtain ⟨v, r, e, h1, h2⟩ := h
    have k : (immD d && immDs ds) = true := k
    rw [Bool.and_eq_true] at k
    exact ⟨v, r, e, VR.imm t d v k.1 h1, VRs.imm t ds r k.2 h2⟩
end
theorem OwnR.imm (t : Tl ags H ags' Ex' H') {d : D} {a : Addr} (hf : obI d = true) (e : H' a = H a) (h : OwnR M ags Ex H d a) : OwnR M ags' Ex' H' d a := by
  cases d with
  | lst ds =>
    obtain ⟨vs, q, r⟩ := h
    exact ⟨vs, e.trans q, VRs.imm t _ _ hf r⟩
  | dct ks ws =>
    obtain ⟨vs, r, q, z⟩ := h
    refine ⟨vs, VRs.imm t _ _ hf r, by rw [e]; exact q, ?_⟩
    have rd : ∀ u, Rd H a u → Rd H' a u := fun u z => by
      rcases z with z | ⟨o, z⟩
      · exact .inl (e.trans z)
      · exact .inr ⟨o, e.trans z⟩
    rcases z with ⟨kvs, h, e⟩ | ⟨kvs, h, e⟩
    · exact .inl ⟨kvs, rd _ h, e⟩
    · exact .inr ⟨kvs, rd _ h, e⟩
  | _ => cases hf
end

/-! ### a state -/
/-- what may not be leant on: O (the callers' own things), the shared objects, the own things of this frame -/
def exs (O : Adr) (ags : List Addr) (W : Nat → Option Addr) : Adr := fun a => O a ∨ a ∈ ags ∨ ∃ i, W i = some a
/-- the shared objects -/
structure SR (M : Nm) (O : Adr) (ags : List Addr) (W : Nat → Option Addr) (H : Hp) (S : List D) : Prop where
  len : ags.length = S.length
  nd : ags.Nodup
  at_ : ∀ (n : Nat) (d : D) (a : Addr), S[n]? = some d → ags[n]? = some a → OwnR M ags (exs O ags W) H d a
  ap : ∀ a ∈ ags, ¬ O a
  wn : ∀ i a, W i = some a → ¬ O a ∧ a ∉ ags ∧ H a ≠ none
  on : ∀ a, O a → H a ≠ none
  wo : ∀ i a, W i = some a → Ob H a
  oo : ∀ a, O a → Ob H a
  fl : ∀ d ∈ S, obI d = true
/-- how the world may go on behind an expression -/
structure Ext (ags : List Addr) (H : Hp) (ags' : List Addr) (H' : Hp) : Prop where
  pre : ags <+: ags'
  same : ∀ a o, a ∉ ags → H a = some o → H' a = some o
  new : ∀ a ∈ ags', a ∈ ags ∨ H a = none
structure Sit (M : Nm) (O : Adr) (ags : List Addr) (W : Nat → Option Addr) (σ : Sg) (S : List D) (σV : L2.St) (H : Hp) : Prop where
  len : σV.length = σ.length
  val : ∀ (i : Nat) (d : D), σ[i]? = some (Slot.val d) → ∃ v, σV[i]? = some (some v) ∧ VR M ags (exs O ags W) H d v
  own : ∀ (i : Nat) (d : D), σ[i]? = some (Slot.own d) → ∃ a, W i = some a ∧ σV[i]? = some (some (.ref a)) ∧ OwnR M ags (exs O ags W) H d a
  inj : ∀ i j a, W i = some a → W j = some a → i = j
  sto : SR M O ags W H S
section
variable {M : Nm} {O : Adr} {ags ags' ags'' : List Addr} {W : Nat → Option Addr} {H H' H'' : Hp} {σ : Sg} {S S' : List D} {σV : L2.St}
theorem SR.adom (r : SR M O ags W H S) {a : Addr} (h : a ∈ ags) : H a ≠ none := by
  obtain ⟨n, hn, e⟩ := List.mem_iff_getElem.mp h
  have hn' : n < S.length := by rw [← r.len]; exact hn
  exact (r.at_ n S[n] a (List.getElem?_eq_getElem hn') (by rw [List.getElem?_eq_getElem hn, e])).ne
theorem SR.aob (r : SR M O ags W H S) {a : Addr} (h : a ∈ ags) : Ob H a := by
  obtain ⟨n, hn, e⟩ := List.mem_iff_getElem.mp h
  have hn' : n < S.length := by rw [← r.len]; exact hn
  exact (r.at_ n S[n] a (List.getElem?_eq_getElem hn') (by rw [List.getElem?_eq_getElem hn, e])).ob
theorem SR.eob (r : SR M O ags W H S) {a : Addr} (h : exs O ags W a) : Ob H a := by
  rcases h with h | h | ⟨i, h⟩
  · exact r.oo a h
  · exact r.aob h
  · exact r.wo i a h
theorem SR.tl (r : SR M O ags W H S) : Tl ags H ags (exs O ags W) H := ⟨List.prefix_refl _, fun a vs h => ⟨h, fun z => (r.eob z).tup h⟩⟩
theorem Ext.refl : Ext ags H ags H := ⟨List.prefix_refl _, fun _ _ _ h => h, fun _ h => .inl h⟩
theorem Ext.dom (e : Ext ags H ags' H') (r : SR M O ags' W H' S') {a : Addr} (h : H a ≠ none) : H' a ≠ none := by
  by_cases ha : a ∈ ags
  · exact r.adom (e.pre.subset ha)
  · obtain ⟨o, ho⟩ := Option.ne_none_iff_exists'.mp h
    rw [e.same a o ha ho]; intro z; cases z
theorem Ext.trans (e : Ext ags H ags' H') (e' : Ext ags' H' ags'' H'') (r : SR M O ags' W H' S') : Ext ags H ags'' H'' := by
  refine ⟨e.pre.trans e'.pre, fun a o n h => ?_, fun a ha => ?_⟩
  · refine e'.same a o (fun z => ?_) (e.same a o n h)
    rcases e.new a z with z | z
    · exact n z
    · rw [h] at z; cases z
  · rcases e'.new a ha with z | z
    · exact e.new a z
    · by_cases h : H a = none
      · exact .inr h
      · exact absurd z (e.dom r h)
theorem Ext.le (e : Ext ags H ags' H') : Le ags (exs O ags W) H ags' (exs O ags' W) H' := by
  refine ⟨e.pre, fun a h z => ?_, fun a o n h => e.same a o (fun z => n (.inr (.inl z))) h⟩
  rcases z with z | z | z
  · exact .inl z
  · rcases e.new a z with z | z
    · exact .inr (.inl z)
    · exact absurd z h
  · exact .inr (.inr z)
theorem Sit.ext (s : Sit M O ags W σ S σV H) (e : Ext ags H ags' H') (r : SR M O ags' W H' S') : Sit M O ags' W σ S' σV H' := by
  refine ⟨s.len, fun i d h => ?_, fun i d h => ?_, s.inj, r⟩
  · obtain ⟨v, e1, q⟩ := s.val i d h
    exact ⟨v, e1, VR.le e.le _ _ q⟩
  · obtain ⟨a, hw, e1, q⟩ := s.own i d h
    refine ⟨a, hw, e1, OwnR.le e.le ?_ q⟩
    obtain ⟨o, ho⟩ := Option.ne_none_iff_exists'.mp (s.sto.wn i a hw).2.2
    rw [ho]
    exact e.same a o (s.sto.wn i a hw).2.1 ho
/-- a new thing is laid -/
theorem Ext.upd {p : Addr} {o : HO} (h : H p = none) : Ext ags H ags (upd H p o) :=
  ⟨List.prefix_refl _, fun a u _ e => by rw [upd_ne (ne_of_none e h)]; exact e, fun a ha => .inl ha⟩
theorem SR.upd {p : Addr} {o : HO} (r : SR M O ags W H S) (h : H p = none) : SR M O ags W (upd H p o) S := by
  have ne : ∀ a, H a ≠ none → (L2.upd H p o) a = H a := fun a ha => upd_ne fun z => ha (z ▸ h)
  refine ⟨r.len, r.nd, fun n d a h1 h2 => ?_, r.ap, fun i a hw => ?_, fun a ha => ?_, fun i a hw => (r.wo i a hw).eq (ne a (r.wo i a hw).ne), fun a ha => (r.oo a ha).eq (ne a (r.on a ha)), r.fl⟩
  · have q := r.at_ n d a h1 h2
    exact OwnR.le (Ext.upd h).le (ne a q.ne) q
  · obtain ⟨h1, h2, h3⟩ := r.wn i a hw
    exact ⟨h1, h2, by rw [ne a h3]; exact h3⟩
  · rw [ne a (r.on a ha)]; exact r.on a ha
theorem SR.nex (r : SR M O ags W H S) {p : Addr} (h : H p = none) : ¬ exs O ags W p := by
  rintro (z | z | ⟨i, z⟩)
  · exact r.on p z h
  · exact r.adom z h
  · exact (r.wn i p z).2.2 h

/-! ### results -/
/-- a value as an operand: nothing is kept of it -/
def RelB (M : Nm) (O : Adr) (ags : List Addr) (W : Nat → Option Addr) (H : Hp) (d : D) (v : V) : Prop :=
  VR M ags (exs O ags W) H d v ∨ ∃ a Ex, v = .ref a ∧ (a ∉ ags ∧ ¬ O a) ∧ (∀ b, exs O ags W b → Ex b) ∧ OwnR M ags Ex H d a
/-- a value that is read at once -/
def RelN (M : Nm) (O : Adr) (ags : List Addr) (W : Nat → Option Addr) (H : Hp) (d : D) (v : V) : Prop :=
  VR M ags (exs O ags W) H d v ∨ ∃ a Ex, v = .ref a ∧ (∀ b, exs O ags W b → Ex b) ∧ OwnR M ags Ex H d a
theorem RelB.n {M : Nm} {O : Adr} {ags : List Addr} {W : Nat → Option Addr} {H : Hp} {d : D} {v : V} (h : RelB M O ags W H d v) : RelN M O ags W H d v := by
  rcases h with h | ⟨a, Ex, e, _, k, q⟩
  · exact .inl h
  · exact .inr ⟨a, Ex, e, k, q⟩
/-- a value that is new, if it is a list or a dict -/
def RelF (M : Nm) (O : Adr) (H₀ : Hp) (ags : List Addr) (W : Nat → Option Addr) (H : Hp) (d : D) (v : V) : Prop :=
  (isOb d = false ∧ VR M ags (exs O ags W) H d v) ∨ ∃ p, v = .ref p ∧ H₀ p = none ∧ ¬ exs O ags W p ∧ OwnR M ags (fun a => exs O ags W a ∨ a = p) H d p
inductive Mo | now | bor | cap | frs
def RelM (m : Mo) (M : Nm) (O : Adr) (H₀ : Hp) (ags : List Addr) (W : Nat → Option Addr) (H : Hp) (d : D) (v : V) : Prop :=
  match m with
  | .now => RelN M O ags W H d v
  | .bor => RelB M O ags W H d v
  | .cap => VR M ags (exs O ags W) H d v
  | .frs => RelF M O H₀ ags W H d v
theorem RelF.cap {d : D} {v : V} (h : RelF M O H ags W H' d v) : VR M ags (exs O ags W) H' d v := by
  rcases h with ⟨_, h⟩ | ⟨p, rfl, _, n, q⟩
  · exact h
  · refine OwnR.vr n (OwnR.le (Ex := fun a => exs O ags W a ∨ a = p) ⟨List.prefix_refl _, fun a _ z => .inl z, fun a o _ h => h⟩ rfl q)
theorem RelM.bor {m : Mo} {d : D} {v : V} (hm : m ≠ .now) (h : RelM m M O H ags W H' d v) : RelB M O ags W H' d v := by
  cases m with
  | now => exact absurd rfl hm
  | bor => exact h
  | cap => exact .inl h
  | frs => exact .inl (RelF.cap h)
theorem RelF.back {d : D} {v : V} (e : Ext ags H ags' H') (r : SR M O ags' W H' S') (h : RelF M O H' ags'' W H'' d v) : RelF M O H ags'' W H'' d v := by
  rcases h with h | ⟨p, e1, e2, n, q⟩
  · exact .inl h
  · refine .inr ⟨p, e1, ?_, n, q⟩
    by_cases z : H p = none
    · exact z
    · exact absurd e2 (e.dom r z)
theorem RelM.ofF {m : Mo} {d : D} {v : V} (h : RelF M O H ags W H' d v) : RelM m M O H ags W H' d v := by
  cases m with
  | now => exact .inl (RelF.cap h)
  | bor => exact .inl (RelF.cap h)
  | cap => exact RelF.cap h
  | frs => exact h
/-- a flat value -/
theorem RelF.flat {d : D} {v : V} (i : isOb d = false) (h : VR M ags (exs O ags W) H d v) : RelF M O H' ags W H d v := .inl ⟨i, h⟩
/-- a new list -/
theorem RelF.newL {p : Addr} {ds : List D} {vs : List V} (r : SR M O ags W H S) (h : H p = none) (q : VRs M ags (exs O ags W) H ds vs) : RelF M O H ags W (upd H p (.lst vs)) (.lst ds) (.ref p) := by
  refine .inr ⟨p, rfl, h, r.nex h, vs, upd_same, VRs.le (Ex := exs O ags W) ⟨List.prefix_refl _, fun a ha z => ?_, fun a o n e => ?_⟩ _ _ q⟩
  · rcases z with z | z
    · exact z
    · exact absurd (z ▸ h) ha
  · rw [upd_ne (ne_of_none e h)]; exact e
/-- a new tuple -/
theorem RelF.newT {p : Addr} {ds : List D} {vs : List V} (r : SR M O ags W H S) (h : H p = none) (q : VRs M ags (exs O ags W) H ds vs) : RelF M O H ags W (upd H p (.tup vs)) (.tup ds) (.ref p) := by
  refine .inl ⟨rfl, p, vs, rfl, r.nex h, upd_same, VRs.le (Ext.upd h).le _ _ q⟩
theorem RelB.lst {ds : List D} {v : V} (h : RelB M O ags W H (.lst ds) v) : ∃ a vs, v = .ref a ∧ H a = some (.lst vs) ∧ VRs M ags (exs O ags W) H ds vs := by
  rcases h with ⟨a, vs, e, n, r, q⟩ | ⟨a, Ex, e, _, n, vs, r, q⟩
  · exact ⟨a, vs, e, r, q⟩
  · exact ⟨a, vs, e, r, VRs.le ⟨List.prefix_refl _, fun b _ z => n b z, fun b o _ e => e⟩ _ _ q⟩
theorem RelB.tup {ds : List D} {v : V} (h : RelB M O ags W H (.tup ds) v) : ∃ a vs, v = .ref a ∧ H a = some (.tup vs) ∧ VRs M ags (exs O ags W) H ds vs := by
  rcases h with ⟨a, vs, e, n, r, q⟩ | ⟨a, Ex, e, _, n, q⟩
  · exact ⟨a, vs, e, r, q⟩
  · exact False.elim q
theorem RelB.tupV {ds : List D} {v : V} (h : RelB M O ags W H (.tup ds) v) : VR M ags (exs O ags W) H (.tup ds) v := by
  rcases h with h | ⟨a, Ex, e, _, n, q⟩
  · exact h
  · exact False.elim q
theorem RelB.dct {ks ws : List D} {v : V} (h : RelB M O ags W H (.dct ks ws) v) : ∃ a vs, v = .ref a ∧ DR H a ks vs ∧ VRs M ags (exs O ags W) H ws vs := by
  rcases h with ⟨a, vs, e, n, q, r⟩ | ⟨a, Ex, e, _, n, vs, q, _, r⟩
  · exact ⟨a, vs, e, r, q⟩
  · exact ⟨a, vs, e, r, VRs.le ⟨List.prefix_refl _, fun b _ z => n b z, fun b o _ e => e⟩ _ _ q⟩
theorem RelB.int {i : Int} {v : V} (h : RelB M O ags W H (.int i) v) : v = .int i := by
  rcases h with h | ⟨a, Ex, e, _, n, q⟩
  · exact h
  · exact False.elim q
theorem RelB.bl {i : Bool} {v : V} (h : RelB M O ags W H (.bl i) v) : v = .bl i := by
  rcases h with h | ⟨a, Ex, e, _, n, q⟩
  · exact h
  · exact False.elim q
theorem RelB.non {v : V} (h : RelB M O ags W H .non v) : v = .non := by
  rcases h with h | ⟨a, Ex, e, _, n, q⟩
  · exact h
  · exact False.elim q
theorem RelB.str {x : List Nat} {v : V} (h : RelB M O ags W H (.str x) v) : v = .str ⟨x.toArray⟩ ∧ Good x := by
  rcases h with h | ⟨a, Ex, e, _, n, q⟩
  · exact h
  · exact False.elim q
theorem RelB.ref {n : Nat} {v : V} (h : RelB M O ags W H (.ref n) v) : ∃ a, ags[n]? = some a ∧ v = .ref a := by
  rcases h with h | ⟨a, Ex, e, _, n, q⟩
  · exact h
  · exact False.elim q
theorem RelB.scr {ns : List Int} {v : V} (h : RelB M O ags W H (.scr ns) v) : ∃ a, v = .ref a ∧ SqL M.K H a (ns.map .int) := by
  rcases h with h | ⟨a, Ex, e, _, n, q⟩
  · rcases h with ⟨a, e, _, _, q⟩ | ⟨a, o, its, n, e, q⟩
    · exact ⟨a, e, q⟩
    · exact ⟨a, e, .inr ⟨o, its, n, q⟩⟩
  · exact False.elim q
theorem RelB.fn {n : Nat} {v : V} (h : RelB M O ags W H (.fn n) v) : M.fn n = some v := by
  rcases h with h | ⟨a, Ex, e, _, n, q⟩
  · exact h
  · exact False.elim q
theorem RelN.lst {ds : List D} {v : V} (h : RelN M O ags W H (.lst ds) v) : ∃ a vs, v = .ref a ∧ H a = some (.lst vs) ∧ VRs M ags (exs O ags W) H ds vs := by
  rcases h with ⟨a, vs, e, n, r, q⟩ | ⟨a, Ex, e, n, vs, r, q⟩
  · exact ⟨a, vs, e, r, q⟩
  · exact ⟨a, vs, e, r, VRs.le ⟨List.prefix_refl _, fun b _ z => n b z, fun b o _ e => e⟩ _ _ q⟩
theorem RelN.tup {ds : List D} {v : V} (h : RelN M O ags W H (.tup ds) v) : ∃ a vs, v = .ref a ∧ H a = some (.tup vs) ∧ VRs M ags (exs O ags W) H ds vs := by
  rcases h with ⟨a, vs, e, n, r, q⟩ | ⟨a, Ex, e, n, q⟩
  · exact ⟨a, vs, e, r, q⟩
  · exact False.elim q
theorem RelN.tupV {ds : List D} {v : V} (h : RelN M O ags W H (.tup ds) v) : VR M ags (exs O ags W) H (.tup ds) v := by
  rcases h with h | ⟨a, Ex, e, n, q⟩
  · exact h
  · exact False.elim q
theorem RelN.dct {ks ws : List D} {v : V} (h : RelN M O ags W H (.dct ks ws) v) : ∃ a vs, v = .ref a ∧ DR H a ks vs ∧ VRs M ags (exs O ags W) H ws vs := by
  rcases h with ⟨a, vs, e, n, q, r⟩ | ⟨a, Ex, e, n, vs, q, _, r⟩
  · exact ⟨a, vs, e, r, q⟩
  · exact ⟨a, vs, e, r, VRs.le ⟨List.prefix_refl _, fun b _ z => n b z, fun b o _ e => e⟩ _ _ q⟩
theorem RelN.int {i : Int} {v : V} (h : RelN M O ags W H (.int i) v) : v = .int i := by
  rcases h with h | ⟨a, Ex, e, n, q⟩
  · exact h
  · exact False.elim q
theorem RelN.bl {i : Bool} {v : V} (h : RelN M O ags W H (.bl i) v) : v = .bl i := by
  rcases h with h | ⟨a, Ex, e, n, q⟩
  · exact h
  · exact False.elim q
theorem RelN.non {v : V} (h : RelN M O ags W H .non v) : v = .non := by
  rcases h with h | ⟨a, Ex, e, n, q⟩
  · exact h
  · exact False.elim q
theorem RelN.str {x : List Nat} {v : V} (h : RelN M O ags W H (.str x) v) : v = .str ⟨x.toArray⟩ ∧ Good x := by
  rcases h with h | ⟨a, Ex, e, n, q⟩
  · exact h
  · exact False.elim q
theorem RelN.ref {n : Nat} {v : V} (h : RelN M O ags W H (.ref n) v) : ∃ a, ags[n]? = some a ∧ v = .ref a := by
  rcases h with h | ⟨a, Ex, e, n, q⟩
  · exact h
  · exact False.elim q
theorem RelN.scr {ns : List Int} {v : V} (h : RelN M O ags W H (.scr ns) v) : ∃ a, v = .ref a ∧ SqL M.K H a (ns.map .int) := by
  rcases h with h | ⟨a, Ex, e, n, q⟩
  · rcases h with ⟨a, e, _, _, q⟩ | ⟨a, o, its, n, e, q⟩
    · exact ⟨a, e, q⟩
    · exact ⟨a, e, .inr ⟨o, its, n, q⟩⟩
  · exact False.elim q
theorem RelN.fn {n : Nat} {v : V} (h : RelN M O ags W H (.fn n) v) : M.fn n = some v := by
  rcases h with h | ⟨a, Ex, e, n, q⟩
  · exact h
  · exact False.elim q
theorem RelB.ext {d : D} {v : V} (e : Ext ags H ags' H') (h : RelB M O ags W H d v) : RelB M O ags' W H' d v := by
  rcases h with h | ⟨a, Ex, rfl, na, n, q⟩
  · exact .inl (VR.le e.le _ _ h)
  · obtain ⟨o, ho⟩ := Option.ne_none_iff_exists'.mp q.ne
    have ea : H' a = H a := by rw [ho]; exact e.same a o na.1 ho
    refine .inr ⟨a, fun b => Ex b ∧ (H b ≠ none) ∨ exs O ags' W b, rfl, ⟨fun z => ?_, na.2⟩, fun b z => .inr z, OwnR.le (Ex := Ex) ⟨e.pre, fun b hb z => ?_, fun b o nb eb => ?_⟩ ea q⟩
    · rcases e.new a z with z | z
      · exact na.1 z
      · rw [ho] at z; cases z
    · rcases z with z | z
      · exact z.1
      · exact n b (e.le.ex b hb z)
    · exact e.same b o (fun z => nb (n b (.inr (.inl z)))) eb
end
end PV

/-! ## PV: operations by values -/
namespace PV
open PySem PySem.Spec PyProof.Rows L2

/-- an exception in the air -/
def XR (M : Nm) (ags : List Addr) (Ex : Adr) (H : Hp) : D → Value → Option Addr → Prop
  | .exc c fs, cls, dx => ∃ C ns vs a, M.cls c = some (C, ns) ∧ cls = .ref C ∧ dx = some a ∧ ¬ Ex a ∧ ns.length = vs.length ∧ H a = some (.xd (ns.zip vs)) ∧ VRs M ags Ex H fs vs
  | _, _, _ => False
section
variable {M : Nm} {O : Adr} {ags ags' : List Addr} {W : Nat → Option Addr} {Wx : WX} {σV : L2.St} {H H' : Hp} {S : List D} {α β : Type}
/-- behind a piece of code: K of its value, or the wish about its exception -/
def Pst (M : Nm) (O : Adr) (W : Nat → Option Addr) (Wx : WX) (σV : L2.St) (ags : List Addr) (H : Hp) (r : R α) (K : α → List D → List Addr → Hp → Prop) : Prop :=
  match r with
  | .ok a S' => ∀ ags' H', Ext ags H ags' H' → SR M O ags' W H' S' → K a S' ags' H'
  | .exc e S' => ∀ ags' H' cls dx, Ext ags H ags' H' → SR M O ags' W H' S' → XR M ags' (exs O ags' W) H' e cls dx → Wx cls dx σV H'
  | .stuck => False
theorem Pst.bnd {m : R α} {f : α → List D → R β} {K : β → List D → List Addr → Hp → Prop} (h : Pst M O W Wx σV ags H (m.bnd f) K) :
    Pst M O W Wx σV ags H m fun a S1 ags1 H1 => Pst M O W Wx σV ags1 H1 (f a S1) K := by
  cases m with
  | ok a S =>
    intro ags1 H1 e1 r1
    have h : Pst M O W Wx σV ags H (f a S) K := h
    cases hf : f a S with
    | ok b S2 =>
      rw [hf] at h
      exact fun ags2 H2 e2 r2 => h _ _ (e1.trans e2 r1) r2
    | exc e S2 =>
      rw [hf] at h
      exact fun ags2 H2 cls dx e2 r2 => h _ _ cls dx (e1.trans e2 r1) r2
    | stuck => rw [hf] at h; exact h
  | exc e S => exact h
  | stuck => exact h
theorem Pst.imp {m : R α} {K K' : α → List D → List Addr → Hp → Prop} (h : Pst M O W Wx σV ags H m K) (k : ∀ a S' ags' H', Ext ags H ags' H' → SR M O ags' W H' S' → K a S' ags' H' → K' a S' ags' H') : Pst M O W Wx σV ags H m K' := by
  cases m with
  | ok a S => exact fun ags1 H1 e1 r1 => k _ _ _ _ e1 r1 (h _ _ e1 r1)
  | exc e S => exact h
  | stuck => exact h
theorem Pst.ok {a : α} {K : α → List D → List Addr → Hp → Prop} (h : Pst M O W Wx σV ags H (.ok a S) K) (r : SR M O ags W H S) : K a S ags H := h _ _ Ext.refl r
end
theorem PE.imp {X : Cx} {e : Expr} {t t' : TE} (h : PE X e t) (k : ∀ σ H Q, t' σ H Q → t σ H Q) : PE X e t' := ⟨fun pins s σ H Q I q => h.run pins s σ H Q I (k _ _ _ q)⟩
theorem PT.imp {X : Cx} {e : Expr} {t t' : TT} (h : PT X e t) (k : ∀ σ H Q, t' σ H Q → t σ H Q) : PT X e t' := ⟨fun pins s σ H Q I q => h.run pins s σ H Q I (k _ _ _ q)⟩
theorem PW.imp {X : Cx} {e : Expr} {t t' : TT} (h : PW X e t) (k : ∀ σ H Q, t' σ H Q → t σ H Q) : PW X e t' := ⟨fun wh pins s σ H Q I q => h.run wh pins s σ H Q I (k _ _ _ q)⟩
theorem PA.imp {X : Cx} {es : List Expr} {t t' : TA} (h : PA X es t) (k : ∀ σ H Q, t' σ H Q → t σ H Q) : PA X es t' := ⟨fun p pins s σ H Q I q => h.run p pins s σ H Q I (k _ _ _ q)⟩
theorem PI.imp {X : Cx} {tg e : Expr} {t t' : TI} (h : PI X tg e t) (k : ∀ σ H Q, t' σ H Q → t σ H Q) : PI X tg e t' := ⟨fun pins s σ H Q I q => h.run pins s σ H Q I (k _ _ _ q)⟩
theorem PS.imp {X : Cx} {e : Stmt} {t t' : TS} (h : PS X e t) (k : ∀ D σ H, t' D σ H → t D σ H) : PS X e t' := ⟨fun pins s σ H D I q => h.run pins s σ H D I (k _ _ _ q)⟩
theorem PSs.imp {X : Cx} {e : List Stmt} {t t' : TS} (h : PSs X e t) (k : ∀ D σ H, t' D σ H → t D σ H) : PSs X e t' := ⟨fun pins s σ H D I q => h.run pins s σ H D I (k _ _ _ q)⟩

/-- what an operation is to reach with the value f -/
def Gives (M : Nm) (f : D) (H : Hp) (Q : VK) (O : Adr) (ags : List Addr) (W : Nat → Option Addr) (S : List D) : Prop :=
  SR M O ags W H S ∧ ∀ v H', Ext ags H ags H' → SR M O ags W H' S → RelF M O H ags W H' f v → Q v H'
section
variable {M : Nm} {O : Adr} {ags ags' : List Addr} {W : Nat → Option Addr} {H H' : Hp} {S : List D} {Q : VK}
theorem Gives.flat {f : D} {v : V} (g : Gives M f H Q O ags W S) (i : isOb f = false) (h : VR M ags (exs O ags W) H f v) : Q v H := g.2 v H Ext.refl g.1 (.inl ⟨i, h⟩)
theorem Gives.lst {ds : List D} {vs : List V} (g : Gives M (.lst ds) H Q O ags W S) (h : VRs M ags (exs O ags W) H ds vs) : ∀ p, H p = none → Q (.ref p) (upd H p (.lst vs)) :=
  fun p hp => g.2 _ _ (Ext.upd hp) (g.1.upd hp) (RelF.newL g.1 hp h)
theorem Gives.tup {ds : List D} {vs : List V} (g : Gives M (.tup ds) H Q O ags W S) (h : VRs M ags (exs O ags W) H ds vs) : ∀ p, H p = none → Q (.ref p) (upd H p (.tup vs)) :=
  fun p hp => g.2 _ _ (Ext.upd hp) (g.1.upd hp) (RelF.newT g.1 hp h)
end

/-! ### texts -/
theorem str_eq (x : List Nat) : (⟨x.toArray⟩ : Str).cps.toList = x := by simp
theorem str_len (x : List Nat) : (⟨x.toArray⟩ : Str).length = x.length := by simp [Str.length]
theorem str_app (x y : List Nat) : (⟨x.toArray⟩ : Str) ++ ⟨y.toArray⟩ = ⟨(x ++ y).toArray⟩ := by
  show (⟨x.toArray ++ y.toArray⟩ : Str) = _
  simp
theorem SZ_eq : SZ = sizeLine := sizeLine_eq.symm
theorem Good.app {x y : List Nat} (h : Good x) (k : Good y) (z : x.length + y.length ≤ sizeLine) : Good (x ++ y) :=
  ⟨by rw [List.length_append]; exact z, fun c hc => (List.mem_append.mp hc).elim (h.ok c) (k.ok c)⟩

theorem foldl_repA {α : Type} (its : List α) : ∀ (k : Nat) (acc : List α),
    List.foldl (fun x1 x2 => x1 ++ x2) acc.toArray (List.replicate k its.toArray) = (acc ++ (List.replicate k its).flatten).toArray
  | 0, acc => by simp
  | k + 1, acc => by
    have e : acc.toArray ++ its.toArray = (acc ++ its).toArray := by simp
    have e2 : (acc ++ its) ++ (List.replicate k its).flatten = acc ++ (List.replicate (k + 1) its).flatten := by
      rw [List.replicate_succ, List.flatten_cons, List.append_assoc]
    rw [← e2, ← foldl_repA its k (acc ++ its), ← e, List.replicate_succ, List.foldl_cons]

/-! ### binary operators -/
def opP : Bop → Operator
  | .add => .Add | .sub => .Sub | .mul => .Mult | .mod => .Mod | .fdiv => .FloorDiv | .pow => .Pow
def rBop (M : Nm) (o : Bop) : R2 := fun x y H Q => ∃ O ags W S d e f, RelN M O ags W H d x ∧ RelN M O ags W H e y ∧ bopD o d e = some f ∧ Gives M f H Q O ags W S
section
variable {X : Cx} {M : Nm} {pins : List (Addr × Obj)} {s : Shared} {σ : L2.St} {H : Hp} {Q : VK}
theorem VRs.rep {O : Adr} {ags : List Addr} {W : Nat → Option Addr} {ds : List D} {vs : List V} (h : VRs M ags (exs O ags W) H ds vs) : ∀ k : Nat, VRs M ags (exs O ags W) H (List.replicate k ds).flatten (List.replicate k vs).flatten
  | 0 => rfl
  | k + 1 => by
    rw [List.replicate_succ, List.replicate_succ, List.flatten_cons, List.flatten_cons]
    exact h.append (VRs.rep h k)
theorem str_rep {x : List Nat} {t u : Tok} {k : Int} (I : Inv X pins σ H s) (h1 : -(2 ^ 63) ≤ k) (h2 : k < 2 ^ 63) (hz : x.length * k.toNat ≤ sizeLine) (q : Q (.str ⟨((List.replicate k.toNat x).flatten).toArray⟩) H) :
    wpAny (model X.prog X.w) X.A (binaryOp .Mult (.str ⟨x.toArray⟩ t) (.int k u)) (EP X pins σ Q) X.xe s := by
  have hs : (sizeLine : Nat) = 16777216 := sizeLine_eq
  refine PySem.P.mul_str (by rw [decide_eq_false (show ¬ k < -(2 ^ 63 : Int) by omega), decide_eq_false (show ¬ k ≥ 2 ^ 63 by omega)]; rfl) (fun h3 _ => ?_) (fun _ _ => ?_) ?_
  · rw [str_len]
    have hk : 0 < k := by omega
    intro hgt
    have e1 : (x.length : Int) * k ≤ 16777216 := by
      have e2 : ((x.length * k.toNat : Nat) : Int) ≤ 16777216 := by omega
      rw [Int.natCast_mul, Int.toNat_of_nonneg (by omega)] at e2
      exact e2
    have e3 : ((2 ^ 63 - 1 : Int) / k) < x.length := hgt
    have e4 : (2 ^ 63 - 1 : Int) < (x.length : Int) * k := Int.lt_mul_of_ediv_lt hk e3
    omega
  · rw [str_len]
    exact decide_eq_false (show ¬ x.length * k.toNat > sizeLine by omega)
  · by_cases hk : k < 1
    · rw [if_pos hk]
      have : k.toNat = 0 := by omega
      rw [this] at q
      exact ⟨by decide, .str _, H, I.tok _, ⟨_, rfl⟩, q⟩
    · rw [if_neg hk]
      by_cases c : (k == 1 || (⟨x.toArray⟩ : Str).length == 0) = true
      · rw [if_pos c]
        have e : ((List.replicate k.toNat x).flatten) = x := by
          rw [str_len] at c
          rw [Bool.or_eq_true] at c
          rcases c with c | c
          · have : k = 1 := by simpa using c
            subst this
            simp
          · have : x = [] := List.eq_nil_of_length_eq_zero (by simpa using c)
            subst this
            simp
        rw [e] at q
        exact ⟨.str _, H, I, ⟨_, rfl⟩, q⟩
      · rw [if_neg c]
        have f0 : (List.replicate k.toNat (⟨x.toArray⟩ : Str).cps).foldl (· ++ ·) #[] = ((List.replicate k.toNat x).flatten).toArray := by
          have := foldl_repA x k.toNat []
          rw [List.nil_append] at this
          exact this
        rw [f0]
        refine ⟨?_, .str _, H, I.tok _, ⟨_, rfl⟩, q⟩
        rw [str_len, PyProof.Rows.lm_len_rep_flat, Nat.mul_comm]
        exact hz
theorem Good.rep {x : List Nat} (h : Good x) {k : Nat} (z : x.length * k ≤ sizeLine) : Good (List.replicate k x).flatten := by
  refine ⟨by rw [PyProof.Rows.lm_len_rep_flat, Nat.mul_comm]; exact z, fun c hc => ?_⟩
  obtain ⟨l, hl, hc⟩ := List.mem_flatten.mp hc
  rw [List.eq_of_mem_replicate hl] at hc
  exact h.ok c hc
theorem op_fdivM : OpR X (binaryOp .FloorDiv) (rI (fun _ j => j ≠ 0 ∧ j.natAbs.log2 < 9000) fun i j => .int (i.fdiv j)) := opI fun _ _ _ _ _ _ _ hc q => floordiv_int hc.1 q (.inl (PyProof.noPylong_of_log2 hc.2))
theorem op_bop (o : Bop) : OpR X (binaryOp (opP o)) (rBop M o) := by
  intro pins s σ H x y v u Q I rx ry h
  obtain ⟨O, ags, W, S, d, e, f, hd, he, hf, g⟩ := h
  have hZ := SZ_eq
  unfold bopD at hf
  split at hf
  · -- int + int
    cases hd.int; cases he.int; cases hf
    exact op_add pins s σ H _ _ v u Q I rx ry ⟨_, _, rfl, rfl, g.flat rfl rfl⟩
  · -- str + str
    rename_i a b
    split at hf
    · rename_i hz
      cases hf
      obtain ⟨rfl, ga⟩ := hd.str
      obtain ⟨rfl, gb⟩ := he.str
      refine op_add_str pins s σ H _ _ v u Q I rx ry ⟨_, _, rfl, rfl, by rw [str_len, str_len, ← hZ]; exact hz, ?_⟩
      rw [str_app]
      exact g.flat rfl ⟨rfl, ga.app gb (by rw [← hZ]; exact hz)⟩
    · cases hf
  · -- list + list
    split at hf
    · rename_i hz
      cases hf
      obtain ⟨a, vs, rfl, ra, qa⟩ := hd.lst
      obtain ⟨b, ws, rfl, rb, qb⟩ := he.lst
      exact op_cat pins s σ H _ _ v u Q I rx ry ⟨a, b, vs, ws, rfl, rfl, ra, rb, by rw [qa.length, qb.length, ← hZ]; exact hz, g.lst (qa.append qb)⟩
    · cases hf
  · -- tuple + tuple
    split at hf
    · rename_i hz
      cases hf
      obtain ⟨a, vs, rfl, ra, qa⟩ := hd.tup
      obtain ⟨b, ws, rfl, rb, qb⟩ := he.tup
      have va : VR M ags (exs O ags W) H (.tup _) (.ref a) := hd.tupV
      have vb : VR M ags (exs O ags W) H (.tup _) (.ref b) := he.tupV
      refine op_catA pins s σ H _ _ v u Q I rx ry ⟨a, b, vs, ws, rfl, rfl, SqT.of ra, SqT.of rb, by rw [qa.length, qb.length, ← hZ]; exact hz, fun e0 => ?_, fun e0 e1 => ?_, fun _ _ => g.tup (qa.append qb)⟩
      · subst e0
        have := qa.length
        rw [List.length_nil] at this
        rw [List.eq_nil_of_length_eq_zero this.symm] at g
        exact g.flat rfl vb
      · subst e1
        have := qb.length
        rw [List.length_nil] at this
        rw [List.eq_nil_of_length_eq_zero this.symm, List.append_nil] at g
        exact g.flat rfl va
    · cases hf
  · cases hd.int; cases he.int; cases hf
    exact op_sub pins s σ H _ _ v u Q I rx ry ⟨_, _, rfl, rfl, g.flat rfl rfl⟩
  · rename_i i j
    split at hf
    · rename_i hm
      cases hd.int; cases he.int; cases hf
      have q : Q (.int (i * j)) H := g.flat rfl rfl
      unfold mulOk at hm
      simp only [Bool.or_eq_true, decide_eq_true_eq] at hm
      rcases hm with (hm | hm) | hm
      · exact op_mul pins s σ H _ _ v u Q I rx ry ⟨_, _, rfl, rfl, .inl ⟨by omega, by omega⟩, q⟩
      · exact op_mul pins s σ H _ _ v u Q I rx ry ⟨_, _, rfl, rfl, .inr ⟨by omega, by omega⟩, q⟩
      · exact op_mulW pins s σ H _ _ v u Q I rx ry ⟨_, _, rfl, rfl, hm, q⟩
    · cases hf
  · -- list * int
    rename_i xs k
    unfold rep at hf
    split at hf
    · rename_i hk
      cases hf
      obtain ⟨a, vs, rfl, ra, qa⟩ := hd.lst
      cases he.int
      exact op_rep pins s σ H _ _ v u Q I rx ry ⟨a, k, vs, rfl, rfl, ra, hk.1, hk.2.1, by rw [qa.length, ← hZ]; exact hk.2.2, g.lst (qa.rep _)⟩
    · cases hf
  · rename_i xs k
    unfold rep at hf
    split at hf
    · rename_i hk
      cases hf
      obtain ⟨rfl, ga⟩ := hd.str
      cases he.int
      obtain ⟨t, rfl⟩ := rx
      obtain ⟨t', rfl⟩ := ry
      exact str_rep I hk.1 hk.2.1 (by rw [← hZ]; exact hk.2.2) (g.flat rfl ⟨rfl, ga.rep (by rw [← hZ]; exact hk.2.2)⟩)
    · cases hf
  · split at hf
    · rename_i hm
      cases hd.int; cases he.int; cases hf
      exact op_modN pins s σ H _ _ v u Q I rx ry ⟨_, _, rfl, rfl, hm, g.flat rfl rfl⟩
    · cases hf
  · split at hf
    · rename_i hm
      cases hd.int; cases he.int; cases hf
      exact op_fdivM pins s σ H _ _ v u Q I rx ry ⟨_, _, rfl, rfl, hm, g.flat rfl rfl⟩
    · cases hf
  · rename_i i j
    split at hf
    · rename_i hm
      cases hd.int; cases he.int; cases hf
      obtain ⟨t, rfl⟩ := rx
      obtain ⟨t', rfl⟩ := ry
      refine pow_int hm.1 ?_ ⟨.int _, H, I.tok _, ⟨_, rfl⟩, g.flat rfl rfl⟩
      have b : Builtin.Int.intBits i ≤ i.natAbs.log2 + 1 := by
        unfold Builtin.Int.intBits
        split <;> omega
      have h0 := hm.1
      have b' : ((Builtin.Int.intBits i : Nat) : Int) ≤ ((i.natAbs.log2 + 1 : Nat) : Int) := by omega
      exact Int.le_trans (Int.mul_le_mul_of_nonneg_right b' h0) hm.2
    · cases hf
  · cases hf
end

/-! ### comparisons -/
def copP : Cop → CmpOp
  | .eq => .Eq | .ne => .NotEq | .lt => .Lt | .le => .LtE | .gt => .Gt | .ge => .GtE | .isin => .In | .notin => .NotIn | .is => .Is | .isnot => .IsNot
mutual
def toP : D → PyData
  | .bl b => .bool b
  | .int i => .int i
  | .str x => .str ⟨x.toArray⟩
  | .lst xs => .list (toPs xs)
  | .tup xs => .tuple (toPs xs)
  | _ => .none
def toPs : List D → List PyData
  | [] => []
  | x :: r => toP x :: toPs r
end
theorem toPs_map : ∀ xs : List D, toPs xs = xs.map toP
  | [] => rfl
  | x :: r => by rw [toPs, toPs_map r]; rfl
mutual
theorem depP : ∀ d : D, (toP d).depth = dep d
  | .non => rfl
  | .bl _ => rfl
  | .int _ => rfl
  | .str _ => rfl
  | .lst xs => by show PyData.depthAll (toPs xs) + 1 = deps xs + 1; rw [depPs xs]
  | .tup xs => by show PyData.depthAll (toPs xs) + 1 = deps xs + 1; rw [depPs xs]
  | .dct _ _ => rfl
  | .exc _ _ => rfl
  | .fn _ => rfl
  | .ref _ => rfl
  | .scr _ => rfl
theorem depPs : ∀ ds : List D, PyData.depthAll (toPs ds) = deps ds
  | [] => rfl
  | d :: ds => by show max (toP d).depth (PyData.depthAll (toPs ds)) = max (dep d) (deps ds); rw [depP d, depPs ds]
end
theorem str_beq (x y : List Nat) : ((⟨x.toArray⟩ : Str) == ⟨y.toArray⟩) = (x == y) := by
  rw [Bool.eq_iff_iff]
  simp
mutual
theorem eqP : ∀ d e : D, dataOk d = true → dataOk e = true → PyData.eqv (toP d) (toP e) = eqD d e
  | .non, e, _, he => by cases e <;> first | rfl | cases he
  | .bl a, e, _, he => by cases e <;> first | rfl | cases he
  | .int i, e, _, he => by cases e <;> first | rfl | cases he
  | .str x, e, _, he => by
    cases e <;> first | rfl | cases he | skip
    exact str_beq _ _
  | .lst xs, e, hd, he => by
    cases e <;> first | rfl | cases he | skip
    exact eqPs xs _ hd he
  | .tup xs, e, hd, he => by
    cases e <;> first | rfl | cases he | skip
    exact eqPs xs _ hd he
  | .dct _ _, _, hd, _ => by cases hd
  | .exc _ _, _, hd, _ => by cases hd
  | .fn _, _, hd, _ => by cases hd
  | .ref _, _, hd, _ => by cases hd
  | .scr _, _, hd, _ => by cases hd
theorem eqPs : ∀ ds es : List D, datasOk ds = true → datasOk es = true → PyData.eqvAll (toPs ds) (toPs es) = eqDs ds es
  | [], [], _, _ => rfl
  | [], _ :: _, _, _ => rfl
  | _ :: _, [], _, _ => rfl
  | d :: ds, e :: es, hd, he => by
    have h1 : dataOk d = true ∧ datasOk ds = true := by simpa [datasOk] using hd
    have h2 : dataOk e = true ∧ datasOk es = true := by simpa [datasOk] using he
    show (PyData.eqv (toP d) (toP e) && PyData.eqvAll (toPs ds) (toPs es)) = (eqD d e && eqDs ds es)
    rw [eqP d e h1.1 h2.1, eqPs ds es h1.2 h2.2]
end
theorem anyP (d : D) (hd : dataOk d = true) : ∀ ds : List D, datasOk ds = true → (toPs ds).any (fun z => PyData.eqv z (toP d)) = ds.any (fun z => eqD z d)
  | [], _ => rfl
  | e :: es, he => by
    have h2 : dataOk e = true ∧ datasOk es = true := by simpa [datasOk] using he
    show (PyData.eqv (toP e) (toP d) || (toPs es).any (fun z => PyData.eqv z (toP d))) = (eqD e d || es.any (fun z => eqD z d))
    rw [eqP e d h2.1 hd, anyP d hd es h2.2]
section
variable {M : Nm} {K : PySem.W.Frag} {ags : List Addr} {Ex : Adr} {O : Adr} {W : Nat → Option Addr} {H : Hp}
mutual
theorem VR.dp : ∀ (d : D) (v : V), VR M ags Ex H d v → dataOk d = true → Dp K H v (toP d) ∧ (toP d).canLay0 = true
  | .non, _, h, _ => by cases (show _ = V.non from h); exact ⟨.non, rfl⟩
  | .bl b, _, h, _ => by cases (show _ = V.bl b from h); exact ⟨.bl b, rfl⟩
  | .int i, _, h, _ => by cases (show _ = V.int i from h); exact ⟨.int i, rfl⟩
  | .str x, _, h, _ => by
    obtain ⟨rfl, g⟩ := h
    refine ⟨.str _, ?_⟩
    show (x.toArray.all fun c => decide (c < 0x110000)) = true
    rw [List.all_toArray]
    exact List.all_eq_true.mpr fun c hc => decide_eq_true (g.ok c hc)
  | .lst ds, _, h, k => by
    obtain ⟨a, vs, rfl, n, r, q⟩ := h
    obtain ⟨h1, h2⟩ := VRs.dp ds vs q k
    exact ⟨.lst (.inl (.inl r)) h1, h2⟩
  | .tup ds, _, h, k => by
    obtain ⟨a, vs, rfl, n, r, q⟩ := h
    obtain ⟨h1, h2⟩ := VRs.dp ds vs q k
    exact ⟨.tup (.inl (.inl r)) h1, h2⟩
  | .dct _ _, _, _, hd => by cases hd
  | .exc _ _, _, _, hd => by cases hd
  | .fn _, _, _, hd => by cases hd
  | .ref _, _, _, hd => by cases hd
  | .scr _, _, _, hd => by cases hd
theorem VRs.dp : ∀ (ds : List D) (vs : List V), VRs M ags Ex H ds vs → datasOk ds = true → DpAll K H vs (toPs ds) ∧ PyData.canLayAll0 (toPs ds) = true
  | [], _, h, _ => by cases (show _ = [] from h); exact ⟨.nil, rfl⟩
  | d :: ds, _, h, k => by
    obtain ⟨v, r, rfl, h1, h2⟩ := h
    have k2 : dataOk d = true ∧ datasOk ds = true := by simpa [datasOk] using k
    obtain ⟨a1, a2⟩ := VR.dp d v h1 k2.1
    obtain ⟨b1, b2⟩ := VRs.dp ds r h2 k2.2
    refine ⟨.cons a1 b1, ?_⟩
    show (PyData.canLay0 (toP d) && PyData.canLayAll0 (toPs ds)) = true
    rw [a2, b2]; rfl
end
theorem RelN.dp {d : D} {v : V} (h : RelN M O ags W H d v) (k : dataOk d = true) : Dp K H v (toP d) ∧ (toP d).canLay0 = true := by
  rcases h with h | ⟨a, E, rfl, n, q⟩
  · exact VR.dp d v h k
  · cases d with
    | lst ds =>
      obtain ⟨vs, e, q⟩ := q
      obtain ⟨h1, h2⟩ := VRs.dp (K := K) ds vs q k
      exact ⟨.lst (.inl (.inl e)) h1, h2⟩
    | dct _ _ => cases k
    | _ => exact False.elim q
end

/-! ### dicts -/
section
variable {M : Nm} {K : PySem.W.Frag} {ags : List Addr} {Ex : Adr} {H : Hp}
theorem keyD_kV {k : Key} (g : KeyG k) : VR M ags Ex H (keyD k) (kV k) := by
  cases k with
  | inl i => rfl
  | inr x => exact ⟨by simp [kV], g⟩
theorem keyD_inj {a b : Key} (h : keyD a = keyD b) : a = b := by
  cases a <;> cases b <;> first | cases h | skip
  · rfl
  · rename_i x y
    have h : x.cps.toList = y.cps.toList := by injection h
    have : x = y := by
      obtain ⟨x⟩ := x
      obtain ⟨y⟩ := y
      simp at h
      rw [h]
    rw [this]
theorem keyEqK (a b : Key) : keyEq (keyD a) (keyD b) = decide (a = b) := by
  rw [Bool.eq_iff_iff]
  have e : ∀ {a b : Key}, keyEq (keyD a) (keyD b) = true ↔ keyD a = keyD b := by
    intro a b
    cases a <;> cases b <;> simp [keyEq, keyD]
  rw [e, decide_eq_true_eq]
  exact ⟨keyD_inj, fun h => by rw [h]⟩
theorem eqK (a b : Key) : eqD (keyD a) (keyD b) = decide (a = b) := by
  rw [← keyEqK]
  cases a <;> cases b <;> rfl
theorem eqKs : ∀ a b : List Key, eqDs (a.map keyD) (b.map keyD) = decide (a = b)
  | [], [] => rfl
  | [], _ :: _ => rfl
  | _ :: _, [] => rfl
  | x :: a, y :: b => by
    show (eqD (keyD x) (keyD y) && eqDs (a.map keyD) (b.map keyD)) = _
    rw [eqK, eqKs a b, Bool.eq_iff_iff]
    simp
/-- a key as the layer has it -/
theorem key_flat {x : D} {y : V} (hx : isK x = true) (h : VR M ags Ex H x y) : ∃ k : Key, x = keyD k ∧ y = kV k ∧ KeyG k := by
  cases x with
  | int i => exact ⟨.inl i, rfl, h, trivial⟩
  | str s =>
    obtain ⟨rfl, g⟩ := h
    exact ⟨.inr ⟨s.toArray⟩, by simp [keyD], rfl, by show Good (s.toArray).toList; simpa using g⟩
  | _ => cases hx
theorem key_flats : ∀ {xs : List D} {ys : List V}, xs.all isK = true → VRs M ags Ex H xs ys → ∃ ks : List Key, xs = ks.map keyD ∧ ys = ks.map kV ∧ ∀ k ∈ ks, KeyG k
  | [], _, _, h => by cases (show _ = [] from h); exact ⟨[], rfl, rfl, fun _ h => nomatch h⟩
  | x :: xs, _, hx, h => by
    rw [List.all_cons, Bool.and_eq_true] at hx
    obtain ⟨v, r, rfl, h1, h2⟩ := h
    obtain ⟨k, rfl, rfl, g⟩ := key_flat hx.1 h1
    obtain ⟨ks, rfl, rfl, gs⟩ := key_flats hx.2 h2
    exact ⟨k :: ks, rfl, rfl, fun a ha => (List.mem_cons.mp ha).elim (fun e => e ▸ g) (gs a)⟩
theorem dgetK {κ : Type} [DecidableEq κ] {f : κ → D} (hf : ∀ a b, keyEq (f a) (f b) = decide (a = b)) (k : κ) : ∀ {kvs : List (κ × V)} {ws : List D}, VRs M ags Ex H ws (kvs.map (·.2)) →
    match dget (kvs.map fun p => f p.1) ws (f k) with | some d => ∃ v, valV kvs k = some v ∧ VR M ags Ex H d v | none => valV kvs k = none
  | [], ws, h => by cases ws <;> rfl
  | p :: kvs, [], h => by cases (show (p :: kvs).map (·.2) = [] from h)
  | p :: kvs, w :: ws, h => by
    obtain ⟨v, r, e, h1, h2⟩ := h
    rw [List.map_cons] at e
    injection e with e1 e2
    subst e1; subst e2
    rw [List.map_cons]
    unfold dget
    rw [hf]
    by_cases c : p.1 = k
    · rw [decide_eq_true c, if_pos rfl]
      exact ⟨_, valV_pos c, h1⟩
    · rw [decide_eq_false c, if_neg Bool.false_ne_true]
      have ih := dgetK hf k (kvs := kvs) (ws := ws) h2
      rw [valV_neg c]
      exact ih
theorem keyEqT (a b : List Key) : keyEq (.tup (a.map keyD)) (.tup (b.map keyD)) = decide (a = b) := eqKs a b
theorem isT_keyD (k : Key) : isT (keyD k) = false := by cases k <;> rfl
theorem tks_ne {kvs : List (List Key × V)} (h : kvs ≠ []) : tks kvs = kvs.map fun p => .tup (p.1.map keyD) := by
  unfold tks
  cases kvs with
  | nil => exact absurd rfl h
  | cons _ _ => rfl
theorem tks_isT (kvs : List (List Key × V)) : isT ((tks kvs).headD .non) = true := by
  cases kvs <;> rfl
/-- the dict's own kind of key -/
theorem key_kind {a : Addr} {ks : List D} {vs : List V} {x : D} {y : V} (dr : DR H a ks vs) (hk : kmOk ks x = true) (hy : VR M ags Ex H x y) :
    (∃ (kvs : List (Key × V)) (k : Key), Rd H a (.dK kvs) ∧ ks = kvs.map (fun p => keyD p.1) ∧ vs = kvs.map (·.2) ∧ (∀ p ∈ kvs, KeyG p.1) ∧ x = keyD k ∧ y = kV k ∧ KeyG k) ∨
    ∃ (kvs : List (List Key × V)) (k : List Key) (b : Addr), Rd H a (.dT kvs) ∧ ks = tks kvs ∧ vs = kvs.map (·.2) ∧ (∀ p ∈ kvs, ∀ k ∈ p.1, KeyG k) ∧ x = .tup (k.map keyD) ∧ y = .ref b ∧ H b = some (.tup (k.map kV)) ∧ ∀ j ∈ k, KeyG j := by
  unfold kmOk at hk
  rw [Bool.and_eq_true, beq_iff_eq] at hk
  obtain ⟨h1, h2⟩ := hk
  rcases dr with ⟨kvs, hr, rfl, e2, g⟩ | ⟨kvs, hr, rfl, e2, g⟩
  · have hx : isT x = false := by
      rw [← h2]
      cases kvs with
      | nil => rfl
      | cons p r => exact isT_keyD p.1
    have hf : isK x = true := by
      cases x <;> first | rfl | cases h1 | cases hx
    obtain ⟨k, rfl, rfl, gk⟩ := key_flat hf hy
    exact .inl ⟨kvs, k, hr, rfl, e2, g, rfl, rfl, gk⟩
  · rw [tks_isT] at h2
    cases x with
    | tup xs =>
      obtain ⟨b, ys, rfl, _, hb, q⟩ := hy
      have hall : xs.all isK = true := h1
      obtain ⟨k, rfl, rfl, gk⟩ := key_flats hall q
      exact .inr ⟨kvs, k, b, hr, rfl, e2, g, rfl, rfl, hb, gk⟩
    | _ => cases h2
theorem DR.get {a : Addr} {ks ws : List D} {vs : List V} {x : D} {y : V} {Ex' : Adr} (dr : DR H a ks vs) (hw : VRs M ags Ex' H ws vs) (hk : kmOk ks x = true) (hy : VR M ags Ex H x y) :
    ∃ o : Option V, DGet H a y o ∧ match dget ks ws x with | some d => ∃ v, o = some v ∧ VR M ags Ex' H d v | none => o = none := by
  rcases key_kind dr hk hy with ⟨kvs, k, hr, rfl, rfl, _, rfl, rfl, _⟩ | ⟨kvs, k, b, hr, rfl, rfl, _, rfl, rfl, hb, _⟩
  · exact ⟨_, .inl ⟨kvs, k, hr, rfl, rfl⟩, dgetK (f := keyD) keyEqK k hw⟩
  · refine ⟨_, .inr ⟨kvs, k, b, hr, rfl, hb, rfl⟩, ?_⟩
    by_cases hn : kvs = []
    · subst hn
      cases ws with
      | nil => rfl
      | cons w ws => obtain ⟨v, r, e, _⟩ := hw; cases e
    · rw [tks_ne hn]
      exact dgetK (f := fun l => D.tup (l.map keyD)) keyEqT k hw
theorem zipRep {κ : Type} [DecidableEq κ] {f : κ → D} (hf : ∀ a b, keyEq (f a) (f b) = decide (a = b)) (k : κ) {d : D} {v : V} (hd : VR M ags Ex H d v) : ∀ {kvs : List (κ × V)} {ws : List D}, VRs M ags Ex H ws (kvs.map (·.2)) →
    VRs M ags Ex H (List.zipWith (fun a w => if keyEq a (f k) then d else w) (kvs.map fun p => f p.1) ws) ((kvs.map fun p => if p.1 = k then (p.1, v) else p).map (·.2))
  | [], ws, h => by cases ws <;> rfl
  | p :: kvs, [], h => by cases (show (p :: kvs).map (·.2) = [] from h)
  | p :: kvs, w :: ws, h => by
    obtain ⟨u, r, e, h1, h2⟩ := h
    rw [List.map_cons] at e
    injection e with e1 e2
    subst e1; subst e2
    refine ⟨_, _, rfl, ?_, zipRep hf k hd h2⟩
    dsimp only
    rw [hf]
    by_cases c : p.1 = k
    · rw [decide_eq_true c, if_pos rfl, if_pos c]; exact hd
    · rw [decide_eq_false c, if_neg Bool.false_ne_true, if_neg c]; exact h1
theorem map_fst_rep {κ : Type} [DecidableEq κ] {α : Type} (g : κ → α) (k : κ) (v : V) (kvs : List (κ × V)) : (kvs.map fun p => if p.1 = k then (p.1, v) else p).map (fun p => g p.1) = kvs.map fun p => g p.1 := by
  rw [List.map_map]
  refine List.map_congr_left fun p _ => ?_
  show g (if p.1 = k then (p.1, v) else p).1 = g p.1
  split <;> rfl
/-- the pairs behind d[k] = v -/
theorem putKD {κ : Type} [DecidableEq κ] {f : κ → D} (hf : ∀ a b, keyEq (f a) (f b) = decide (a = b)) (k : κ) {d : D} {v : V} (hd : VR M ags Ex H d v) {kvs : List (κ × V)} {ws : List D} (hn : kvs ≠ []) (hw : VRs M ags Ex H ws (kvs.map (·.2))) :
    (dput (kvs.map fun p => f p.1) ws (f k) d).1 = (putK kvs k v).map (fun p => f p.1) ∧ VRs M ags Ex H (dput (kvs.map fun p => f p.1) ws (f k) d).2 ((putK kvs k v).map (·.2)) := by
  have hwn : ws.isEmpty = false := by
    cases ws with
    | nil =>
      have e : kvs.map (·.2) = [] := hw
      rw [List.map_eq_nil_iff] at e
      exact absurd e hn
    | cons _ _ => rfl
  have key := dgetK (f := f) hf k hw
  unfold dput
  rw [hwn, if_neg Bool.false_ne_true]
  cases hg : dget (kvs.map fun p => f p.1) ws (f k) with
  | none =>
    rw [hg] at key
    rw [Option.isSome_none, if_neg Bool.false_ne_true, putK_new v key, List.map_append, List.map_append]
    exact ⟨rfl, hw.append (VRs.one hd)⟩
  | some e =>
    rw [hg] at key
    obtain ⟨u, hu, _⟩ := key
    have hany : (kvs.any fun kv => decide (kv.1 = k)) = true := by rw [valV_any, hu]; rfl
    rw [Option.isSome_some, if_pos rfl]
    unfold putK
    rw [if_pos hany, map_fst_rep]
    exact ⟨rfl, zipRep hf k hd hw⟩
theorem putK_nil {κ : Type} [DecidableEq κ] (k : κ) (v : V) : putK ([] : List (κ × V)) k v = [(k, v)] := rfl
theorem putK_ne {κ : Type} [DecidableEq κ] (k : κ) (v : V) (kvs : List (κ × V)) : putK kvs k v ≠ [] := by
  unfold putK
  split
  · rename_i h
    cases kvs with
    | nil => cases h
    | cons _ _ => simp
  · simp
theorem putK_good {κ : Type} [DecidableEq κ] {P : κ → Prop} {k : κ} {v : V} {kvs : List (κ × V)} (h : ∀ p ∈ kvs, P p.1) (hk : P k) : ∀ p ∈ putK kvs k v, P p.1 := by
  intro p hp
  unfold putK at hp
  split at hp
  · obtain ⟨q, hq, rfl⟩ := List.mem_map.mp hp
    split
    · exact h q hq
    · exact h q hq
  · rcases List.mem_append.mp hp with hp | hp
    · exact h p hp
    · cases List.mem_singleton.mp hp; exact hk
/-- d[x] = e: what stands there then -/
theorem dput_ok {a : Addr} {ks ws : List D} {vs : List V} {x d : D} {y v : V} {Ex' : Adr} (hn : (∃ kvs, H a = some (.dK kvs)) ∨ ∃ kvs, H a = some (.dT kvs)) (dr : DR H a ks vs) (hw : VRs M ags Ex' H ws vs) (hk : kmOk ks x = true) (hz : ws.length < sizeLine) (hy : VR M ags Ex H x y) (hd : VR M ags Ex' H d v) :
    ∃ H', DPut H a y v H' ∧ (∃ o, H' = upd H a o) ∧ ((∃ kvs, H' a = some (.dK kvs)) ∨ ∃ kvs, H' a = some (.dT kvs)) ∧ ∃ vs', DR H' a (dput ks ws x d).1 vs' ∧ VRs M ags Ex' H (dput ks ws x d).2 vs' := by
  have same : ∀ {u : HO}, Rd H a u → (∀ o w, u ≠ .frz o w) → H a = some u := fun {u} h _ => by
    rcases h with h | ⟨o, h⟩
    · exact h
    · rcases hn with ⟨_, hn⟩ | ⟨_, hn⟩ <;> (rw [h] at hn; cases hn)
  have hl := hw.length
  rcases key_kind dr hk hy with ⟨kvs, k, hr, rfl, rfl, g, rfl, rfl, gk⟩ | ⟨kvs, k, b, hr, rfl, rfl, g, rfl, rfl, hb, gk⟩
  · have hH := same hr (fun _ _ h => by cases h)
    rw [List.length_map] at hl
    refine ⟨_, DPut.k hH (by omega), ⟨_, rfl⟩, .inl ⟨_, upd_same⟩, (putK kvs k v).map (·.2), .inl ⟨_, .inl upd_same, ?_, rfl, putK_good g gk⟩, ?_⟩
    all_goals by_cases hn0 : kvs = []
    · subst hn0
      cases ws with
      | nil => rfl
      | cons _ _ => obtain ⟨_, _, e, _⟩ := hw; cases e
    · exact (putKD (f := keyD) keyEqK k hd hn0 hw).1
    · subst hn0
      cases ws with
      | nil => exact VRs.one hd
      | cons _ _ => obtain ⟨_, _, e, _⟩ := hw; cases e
    · exact (putKD (f := keyD) keyEqK k hd hn0 hw).2
  · have hH := same hr (fun _ _ h => by cases h)
    rw [List.length_map] at hl
    refine ⟨_, DPut.t hH hb (by omega), ⟨_, rfl⟩, .inr ⟨_, upd_same⟩, (putK kvs k v).map (·.2), .inr ⟨_, .inl upd_same, ?_, rfl, putK_good (P := fun l => ∀ j ∈ l, KeyG j) g gk⟩, ?_⟩
    all_goals by_cases hn0 : kvs = []
    · subst hn0
      cases ws with
      | nil => rfl
      | cons _ _ => obtain ⟨_, _, e, _⟩ := hw; cases e
    · rw [tks_ne hn0, tks_ne (putK_ne k v kvs)]
      exact (putKD (f := fun l => D.tup (l.map keyD)) keyEqT k hd hn0 hw).1
    · subst hn0
      cases ws with
      | nil => exact VRs.one hd
      | cons _ _ => obtain ⟨_, _, e, _⟩ := hw; cases e
    · rw [tks_ne hn0]
      exact (putKD (f := fun l => D.tup (l.map keyD)) keyEqT k hd hn0 hw).2
end

/-- a value that is compared or shown -/
def RelD (M : Nm) (ags : List Addr) (H : Hp) (d : D) (v : V) : Prop := VR M ags (fun _ => False) H d v
section
variable {M : Nm} {K : PySem.W.Frag} {O : Adr} {ags : List Addr} {W : Nat → Option Addr} {H : Hp} {v : V} {Ex : Adr}
theorem VR.d {d : D} (h : VR M ags Ex H d v) : RelD M ags H d v := VR.le ⟨List.prefix_refl _, fun a _ z => z.elim, fun a o _ e => e⟩ _ _ h
theorem OwnR.d {d : D} {a : Addr} (q : OwnR M ags Ex H d a) : RelD M ags H d (.ref a) := OwnR.vr id (OwnR.le (Ex := Ex) ⟨List.prefix_refl _, fun a _ z => z.elim, fun a o _ e => e⟩ rfl q)
theorem RelN.d {d : D} (h : RelN M O ags W H d v) : RelD M ags H d v := by
  rcases h with h | ⟨a, E, rfl, n, q⟩
  · exact h.d
  · exact q.d
theorem RelB.d {d : D} (h : RelB M O ags W H d v) : RelD M ags H d v := h.n.d
theorem RelD.lst {ds : List D} (h : RelD M ags H (.lst ds) v) : ∃ a vs, v = .ref a ∧ H a = some (.lst vs) ∧ VRs M ags (fun _ => False) H ds vs := by
  obtain ⟨a, vs, e, n, r, q⟩ := h
  exact ⟨a, vs, e, r, q⟩
theorem RelD.tup {ds : List D} (h : RelD M ags H (.tup ds) v) : ∃ a vs, v = .ref a ∧ H a = some (.tup vs) ∧ VRs M ags (fun _ => False) H ds vs := by
  obtain ⟨a, vs, e, n, r, q⟩ := h
  exact ⟨a, vs, e, r, q⟩
theorem RelD.dct {ks ws : List D} (h : RelD M ags H (.dct ks ws) v) : ∃ a vs, v = .ref a ∧ DR H a ks vs ∧ VRs M ags (fun _ => False) H ws vs := by
  obtain ⟨a, vs, e, n, q, r⟩ := h
  exact ⟨a, vs, e, r, q⟩
theorem RelD.int {i : Int} (h : RelD M ags H (.int i) v) : v = .int i := h
theorem RelD.bl {i : Bool} (h : RelD M ags H (.bl i) v) : v = .bl i := h
theorem RelD.non (h : RelD M ags H .non v) : v = .non := h
theorem RelD.str {x : List Nat} (h : RelD M ags H (.str x) v) : v = .str ⟨x.toArray⟩ ∧ Good x := h
theorem RelD.ref {n : Nat} (h : RelD M ags H (.ref n) v) : ∃ a, ags[n]? = some a ∧ v = .ref a := h
theorem RelD.scr {ns : List Int} (h : RelD M ags H (.scr ns) v) : ∃ a, v = .ref a ∧ SqL M.K H a (ns.map .int) := by
  rcases h with ⟨a, e, _, _, q⟩ | ⟨a, o, its, n, e, q⟩
  · exact ⟨a, e, q⟩
  · exact ⟨a, e, .inr ⟨o, its, n, q⟩⟩
theorem RelD.dp {d : D} (h : RelD M ags H d v) (k : dataOk d = true) : Dp K H v (toP d) ∧ (toP d).canLay0 = true := VR.dp d v h k
/-- the shared objects in it read -/
theorem VR.deep {S : List D} (sr : SR M O ags W H S) : ∀ (k : Nat) (d : D) (v : V), VR M ags (fun _ => False) H d v → VR M ags (fun _ => False) H (dpD S k d) v
  | 0, d, v, h => h
  | k + 1, .ref n, v, h => by
    obtain ⟨a, e, rfl⟩ := h
    have hn : n < S.length := by rw [← sr.len]; exact (List.getElem?_eq_some_iff.mp e).1
    have eS : S[n]? = some S[n] := List.getElem?_eq_getElem hn
    have q := VR.deep sr k S[n] (.ref a) (sr.at_ n _ a eS e).d
    show VR M ags _ H (dpD S k (S.getD n .non)) _
    rw [List.getD_eq_getElem?_getD, eS]
    exact q
  | k + 1, .tup xs, v, h => by
    obtain ⟨a, vs, e, n, r, q⟩ := h
    exact ⟨a, vs, e, n, r, go sr k q⟩
  | k + 1, .lst xs, v, h => by
    obtain ⟨a, vs, e, n, r, q⟩ := h
    exact ⟨a, vs, e, n, r, go sr k q⟩
  | k + 1, .dct ks ws, v, h => by
    obtain ⟨a, vs, e, n, q, r⟩ := h
    exact ⟨a, vs, e, n, go sr k q, r⟩
  | _ + 1, .non, v, h => h
  | _ + 1, .bl _, v, h => h
  | _ + 1, .int _, v, h => h
  | _ + 1, .str _, v, h => h
  | _ + 1, .exc _ _, v, h => h
  | _ + 1, .fn _, v, h => h
  | _ + 1, .scr _, v, h => h
where go {S : List D} (sr : SR M O ags W H S) (k : Nat) : ∀ {ds : List D} {vs : List V}, VRs M ags (fun _ => False) H ds vs → VRs M ags (fun _ => False) H (ds.map (dpD S k)) vs
  | [], _, h => h
  | d :: ds, _, h => by
    obtain ⟨v, r, e, h1, h2⟩ := h
    exact ⟨v, r, e, VR.deep sr k d v h1, go sr k h2⟩
theorem RelD.deep {S : List D} (sr : SR M O ags W H S) {d : D} (h : RelD M ags H d v) : RelD M ags H (deepD S d) v := VR.deep sr 8 d v h
end
theorem hasN_iff {p : List Nat} : ∀ {y : List Nat}, hasN p y = true ↔ ∃ i, i + p.length ≤ y.length ∧ ((y.drop i).take p.length == p) = true
  | [] => by
    show p.isEmpty = true ↔ _
    rw [List.isEmpty_iff]
    constructor
    · rintro rfl; exact ⟨0, by simp, by simp⟩
    · rintro ⟨i, h, _⟩
      cases p with
      | nil => rfl
      | cons _ _ => simp at h
  | c :: r => by
    show (p.isPrefixOf (c :: r) || hasN p r) = true ↔ _
    rw [Bool.or_eq_true, hasN_iff (y := r), List.isPrefixOf_iff_prefix]
    constructor
    · rintro (h | ⟨i, h1, h2⟩)
      · exact ⟨0, by simpa using h.length_le, by simpa [List.drop_zero] using (List.prefix_iff_eq_take.mp h).symm⟩
      · exact ⟨i + 1, by simp; omega, by simpa using h2⟩
    · rintro ⟨i, h1, h2⟩
      cases i with
      | zero =>
        left
        rw [List.prefix_iff_eq_take]
        simpa using (by simpa using h2 : List.take p.length (c :: r) = p).symm
      | succ i => exact .inr ⟨i, by simp at h1; omega, by simpa using h2⟩
theorem occ_has (x y : List Nat) : (!(Builtin.Str.occurrences ⟨y.toArray⟩ ⟨x.toArray⟩ 0 (⟨y.toArray⟩ : Str).length 1).isEmpty) = hasN x y := by
  rw [Bool.eq_iff_iff, PySem.StrLaws.found_iff, hasN_iff]
  simp only [PySem.StrLaws.subAt_eq, str_len, str_eq]
def rCop (M : Nm) (o : Cop) : R2 := fun x y H Q => ∃ ags d e k, RelD M ags H d x ∧ RelD M ags H e y ∧ copD o d e = some k ∧ Q (.bl k) H
section
variable {X : Cx} {M : Nm} {pins : List (Addr × Obj)} {s : Shared} {σ : L2.St} {H : Hp} {Q : VK} {O : Adr} {ags : List Addr} {W : Nat → Option Addr}
theorem min_room {u a b : Nat} (hu : u + 65 < cLine) (h : a ≤ 60 ∨ b ≤ 60) : u + min a b < cLine ∧ u + 1 + min a b < cLine := by
  have h1 : min a b ≤ a := Nat.min_le_left _ _
  have h2 : min a b ≤ b := Nat.min_le_right _ _
  omega
theorem in_any (hu : X.A.units + 65 < cLine) {d e : D} {k : Bool} {x y : V} {v u : Value} (I : Inv X pins σ H s) (rx : RelV x v) (ry : RelV y u) (hd : RelD M ags H d x) (he : RelD M ags H e y) (hf : inD d e = some k) :
    (Q (.bl k) H → wpAny (model X.prog X.w) X.A (compareOp .In v u) (EP X pins σ Q) X.xe s) ∧ (Q (.bl (!k)) H → wpAny (model X.prog X.w) X.A (compareOp .NotIn v u) (EP X pins σ Q) X.xe s) := by
  unfold inD at hf
  split at hf
  · split at hf
    · cases hf
      obtain ⟨rfl, ga⟩ := hd.str
      obtain ⟨rfl, gb⟩ := he.str
      refine ⟨fun q => op_in_sign pins s σ H _ _ v u Q I rx ry ⟨_, _, rfl, rfl, by rw [str_eq]; exact q⟩, fun q => op_notIn_sign pins s σ H _ _ v u Q I rx ry ⟨_, _, rfl, rfl, by rw [str_eq]; exact q⟩⟩
    · cases hf
      obtain ⟨rfl, ga⟩ := hd.str
      obtain ⟨rfl, gb⟩ := he.str
      refine ⟨fun q => op_in_str pins s σ H _ _ v u Q I rx ry ⟨_, _, rfl, rfl, by rw [occ_has]; exact q⟩, fun q => op_notin_str pins s σ H _ _ v u Q I rx ry ⟨_, _, rfl, rfl, by rw [occ_has]; exact q⟩⟩
    · cases hf
  · rename_i ks ws
    split at hf
    · rename_i hc
      cases hf
      obtain ⟨a, vs, rfl, dr, hw⟩ := he.dct
      cases ry
      have hx : ∃ Ex, VR M ags Ex H d x := ⟨_, hd⟩
      obtain ⟨Ex, hx⟩ := hx
      obtain ⟨o, g, ho⟩ := dr.get hw hc hx
      have e : o.isSome = (dget ks ws d).isSome := by
        cases hg : dget ks ws d with
        | none => rw [hg] at ho; rw [ho]; rfl
        | some w => rw [hg] at ho; obtain ⟨v, e, _⟩ := ho; rw [e]; rfl
      have hu2 : X.A.units + 1 < cLine := by omega
      exact ⟨fun q => d_in hu2 I g rx fun s' I' => ⟨.bl _, H, I', rfl, by rw [e]; exact q⟩, fun q => d_notIn hu2 I g rx fun s' I' => ⟨.bl _, H, I', rfl, by rw [e]; exact q⟩⟩
    · cases hf
  · rename_i ys
    split at hf
    · rename_i hc
      cases hf
      simp only [Bool.and_eq_true, Bool.or_eq_true, decide_eq_true_eq] at hc
      obtain ⟨p1, c1⟩ := hd.dp (K := X.K) hc.1.1
      obtain ⟨p2, c2⟩ := he.dp (K := X.K) hc.1.2
      obtain ⟨as, r1⟩ := Dp.reads I _ x v p1 rx
      obtain ⟨bs, r2⟩ := Dp.reads I (.list (toPs ys)) y u p2 ry
      have room := (min_room hu hc.2).2
      rw [← depPs, ← depP] at room
      refine ⟨fun q => SeqAt.in_list_reads r2 r1 c2 c1 room ?_, fun q => SeqAt.notIn_list_reads r2 r1 c2 c1 room ?_⟩
      · rw [anyP _ hc.1.1 _ hc.1.2]; exact ⟨.bl _, H, I, rfl, q⟩
      · rw [anyP _ hc.1.1 _ hc.1.2]; exact ⟨.bl _, H, I, rfl, q⟩
    · cases hf
  · rename_i ys
    split at hf
    · rename_i hc
      cases hf
      simp only [Bool.and_eq_true, Bool.or_eq_true, decide_eq_true_eq] at hc
      obtain ⟨p1, c1⟩ := hd.dp (K := X.K) hc.1.1
      obtain ⟨p2, c2⟩ := he.dp (K := X.K) hc.1.2
      obtain ⟨as, r1⟩ := Dp.reads I _ x v p1 rx
      obtain ⟨bs, r2⟩ := Dp.reads I (.tuple (toPs ys)) y u p2 ry
      have room := (min_room hu hc.2).2
      rw [← depPs, ← depP] at room
      refine ⟨fun q => SeqAt.in_tuple_reads r2 r1 c2 c1 room ?_, fun q => SeqAt.notIn_tuple_reads r2 r1 c2 c1 room ?_⟩
      · rw [anyP _ hc.1.1 _ hc.1.2]; exact ⟨.bl _, H, I, rfl, q⟩
      · rw [anyP _ hc.1.1 _ hc.1.2]; exact ⟨.bl _, H, I, rfl, q⟩
    · cases hf
  · cases hf
theorem is_bool_gen {M : Model} {A : Around} {E Q : Value → Shared → Prop} {x : V} {v : Value} {b : Bool} {s : Shared} (r : RelV x v) (h : Q (.bool (v == .bool b)) s) : wpAny M A (compareOp .Is v (.bool b)) Q E s := by
  cases x with
  | non => cases r; exact wpAny_pure h
  | bl c => cases r; exact wpAny_pure h
  | int _ => obtain ⟨t, rfl⟩ := r; exact wpAny_pure h
  | str _ => obtain ⟨t, rfl⟩ := r; exact wpAny_pure h
  | byt _ => obtain ⟨t, rfl⟩ := r; exact wpAny_pure h
  | flt _ => obtain ⟨t, rfl⟩ := r; exact wpAny_pure h
  | ref _ => cases r; exact wpAny_pure h
  | ty _ => cases r; exact wpAny_pure h
theorem isnot_bool_gen {M : Model} {A : Around} {E Q : Value → Shared → Prop} {x : V} {v : Value} {b : Bool} {s : Shared} (r : RelV x v) (h : Q (.bool (!(v == .bool b))) s) : wpAny M A (compareOp .IsNot v (.bool b)) Q E s := by
  cases x with
  | non => cases r; exact wpAny_pure h
  | bl c => cases r; exact wpAny_pure h
  | int _ => obtain ⟨t, rfl⟩ := r; exact wpAny_pure h
  | str _ => obtain ⟨t, rfl⟩ := r; exact wpAny_pure h
  | byt _ => obtain ⟨t, rfl⟩ := r; exact wpAny_pure h
  | flt _ => obtain ⟨t, rfl⟩ := r; exact wpAny_pure h
  | ref _ => cases r; exact wpAny_pure h
  | ty _ => cases r; exact wpAny_pure h
theorem RelV.bool_iff {x : V} {v : Value} {b : Bool} (r : RelV x v) : (v == Value.bool b) = decide (x = .bl b) := by
  cases x with
  | non => cases r; rfl
  | bl c => cases r; cases b <;> cases c <;> rfl
  | int _ => obtain ⟨t, rfl⟩ := r; rfl
  | str _ => obtain ⟨t, rfl⟩ := r; rfl
  | byt _ => obtain ⟨t, rfl⟩ := r; rfl
  | flt _ => obtain ⟨t, rfl⟩ := r; rfl
  | ref _ => cases r; rfl
  | ty _ => cases r; rfl
theorem isD_ok {d e : D} {k : Bool} {x y : V} (hd : RelD M ags H d x) (he : RelD M ags H e y) (hf : isD d e = some k) : (y = .non ∧ k = decide (x = .non)) ∨ ∃ b, y = .bl b ∧ k = decide (x = .bl b) := by
  have ref : ∀ {d : D}, RelD M ags H d x → (∃ z : Nat, True) → (∃ a, x = .ref a) ∨ (match d with | .non | .bl _ | .int _ | .str _ | .fn _ => True | _ => False) := by
    intro d hd _
    cases d with
    | lst _ => obtain ⟨a, _, e, _⟩ := hd.lst; exact .inl ⟨a, e⟩
    | tup _ => obtain ⟨a, _, e, _⟩ := hd.tup; exact .inl ⟨a, e⟩
    | dct _ _ => obtain ⟨a, _, e, _⟩ := hd.dct; exact .inl ⟨a, e⟩
    | ref _ => obtain ⟨a, _, e⟩ := hd.ref; exact .inl ⟨a, e⟩
    | scr _ => obtain ⟨a, e, _⟩ := hd.scr; exact .inl ⟨a, e⟩
    | exc _ _ => obtain ⟨_, _, _, a, _, _, e, _⟩ := hd; exact .inl ⟨a, e⟩
    | _ => exact .inr trivial
  unfold isD at hf
  split at hf
  · cases hf
  · cases hf; cases hd.non; cases he.non; exact .inl ⟨rfl, rfl⟩
  · rename_i hn1 hn2
    cases hf; cases he.non
    refine .inl ⟨rfl, ?_⟩
    rcases ref hd ⟨0, trivial⟩ with ⟨a, rfl⟩ | hm
    · rfl
    · cases d with
      | non => exact absurd rfl hn2
      | bl _ => cases hd.bl; rfl
      | int _ => cases hd.int; rfl
      | str _ => obtain ⟨rfl, _⟩ := hd.str; rfl
      | fn n => exact absurd rfl (hn1 n)
      | _ => exact False.elim hm
  · cases hf; cases hd.bl; cases he.bl
    refine .inr ⟨_, rfl, ?_⟩
    rw [Bool.eq_iff_iff]; simp
  · rename_i hn1 hn2
    cases hf; cases he.bl
    refine .inr ⟨_, rfl, ?_⟩
    rcases ref hd ⟨0, trivial⟩ with ⟨a, rfl⟩ | hm
    · rfl
    · cases d with
      | non => cases hd.non; rfl
      | bl b => exact absurd rfl (hn2 b)
      | int _ => cases hd.int; rfl
      | str _ => obtain ⟨rfl, _⟩ := hd.str; rfl
      | fn n => exact absurd rfl (hn1 n)
      | _ => exact False.elim hm
  · cases hf
def rEqDR : R2 := fun x y H Q => ∃ a b ks ls, x = .ref a ∧ y = .ref b ∧ Rd H a (.dK ks) ∧ Rd H b (.dK ls) ∧ ks.length = ls.length ∧ (∀ p ∈ ks, valV ls p.1 = some p.2 ∧ flatB p.2 = true) ∧ Q (.bl true) H
def rNeDR : R2 := fun x y H Q => ∃ a b ks ls, x = .ref a ∧ y = .ref b ∧ Rd H a (.dK ks) ∧ Rd H b (.dK ls) ∧ ks.length = ls.length ∧ (∀ p ∈ ks, valV ls p.1 = some p.2 ∧ flatB p.2 = true) ∧ Q (.bl false) H
theorem op_eq_dR (hu : X.A.units < cLine) : OpR X (compareOp .Eq) rEqDR := by
  intro pins s σ H x y v u Q I rx ry h
  obtain ⟨a, b, ks, ls, rfl, rfl, ea, eb, hlen, hp, q⟩ := h
  obtain rfl : v = Value.ref a := rx
  obtain rfl : u = Value.ref b := ry
  obtain ⟨_, ya, va, ra, da⟩ := (show ObjOk X.prog X.w H s.heap a (.dK ks) from Rd.ok ea I.hok)
  obtain ⟨_, yb, vb, rb, db⟩ := (show ObjOk X.prog X.w H s.heap b (.dK ls) from Rd.ok eb I.hok)
  have hl : va.length = vb.length := by rw [← ra.length, ← rb.length]; exact hlen
  exact PySem.W.keq_eq (knd := mixKind X.prog X.w) (r := true) ya yb da db hu (fun _ => hits_all rb ra hp) (fin_bl I q (by simp [hl]))
theorem op_ne_dR (hu : X.A.units < cLine) : OpR X (compareOp .NotEq) rNeDR := by
  intro pins s σ H x y v u Q I rx ry h
  obtain ⟨a, b, ks, ls, rfl, rfl, ea, eb, hlen, hp, q⟩ := h
  obtain rfl : v = Value.ref a := rx
  obtain rfl : u = Value.ref b := ry
  obtain ⟨_, ya, va, ra, da⟩ := (show ObjOk X.prog X.w H s.heap a (.dK ks) from Rd.ok ea I.hok)
  obtain ⟨_, yb, vb, rb, db⟩ := (show ObjOk X.prog X.w H s.heap b (.dK ls) from Rd.ok eb I.hok)
  have hl : va.length = vb.length := by rw [← ra.length, ← rb.length]; exact hlen
  exact PySem.W.keq_ne (knd := mixKind X.prog X.w) (r := true) ya yb da db hu (fun _ => hits_all rb ra hp) (fin_bl I q (by simp [hl]))
theorem tks_notK {kvs : List (List Key × V)} : (tks kvs).all isK = false := by
  unfold tks
  cases kvs with
  | nil => rfl
  | cons p r => rfl
theorem flatEq_V {Ex Ex' : Adr} {d e : D} {v w : V} (h : flatEq d e = true) (hv : VR M ags Ex H d v) (hw : VR M ags Ex' H e w) : v = w ∧ flatB v = true := by
  cases d <;> cases e <;> first | (cases h; done) | skip
  · cases (show v = .non from hv); cases (show w = .non from hw); exact ⟨rfl, rfl⟩
  · rename_i a b
    cases eq_of_beq h
    cases (show v = .bl a from hv); cases (show w = .bl a from hw); exact ⟨rfl, rfl⟩
  · rename_i a b
    cases eq_of_beq h
    cases (show v = .int a from hv); cases (show w = .int a from hw); exact ⟨rfl, rfl⟩
  · rename_i a b
    cases eq_of_beq h
    obtain ⟨rfl, _⟩ := hv
    obtain ⟨rfl, _⟩ := hw
    exact ⟨rfl, rfl⟩
theorem dEq_ok {d e : D} {v w : V} (h : dEq d e = true) (hd : RelD M ags H d v) (he : RelD M ags H e w) : ∃ a b ks ls, v = .ref a ∧ w = .ref b ∧ Rd H a (.dK ks) ∧ Rd H b (.dK ls) ∧ ks.length = ls.length ∧ ∀ p ∈ ks, valV ls p.1 = some p.2 ∧ flatB p.2 = true := by
  cases d <;> cases e <;> first | (cases h; done) | skip
  rename_i ks ws ls us
  have h : (ks.all isK && ls.all isK && ks.length == ls.length && ks.length == ws.length && ls.length == us.length && (List.zip ks ws).all fun p => match dget ls us p.1 with
    | some v => flatEq p.2 v
    | none => false) = true := h
  simp only [Bool.and_eq_true, beq_iff_eq] at h
  obtain ⟨⟨⟨⟨⟨h1, h2⟩, h3⟩, h4⟩, h5⟩, h6⟩ := h
  obtain ⟨a, vs, rfl, da, hv⟩ := hd.dct
  obtain ⟨b, us', rfl, db, hw⟩ := he.dct
  rcases da with ⟨kvs, ra, rfl, rfl, _⟩ | ⟨kvs, _, rfl, _⟩
  · rcases db with ⟨lvs, rb, rfl, rfl, _⟩ | ⟨lvs, _, rfl, _⟩
    · refine ⟨a, b, kvs, lvs, rfl, rfl, ra, rb, by rw [List.length_map, List.length_map] at h3; exact h3, fun p hp => ?_⟩
      obtain ⟨i, hi⟩ := List.mem_iff_getElem?.mp hp
      have hk : (kvs.map fun p => keyD p.1)[i]? = some (keyD p.1) := by rw [List.getElem?_map, hi]; rfl
      have hlt : i < ws.length := by rw [← h4]; exact (List.getElem?_eq_some_iff.mp hk).1
      have hwi : ws[i]? = some ws[i] := List.getElem?_eq_getElem hlt
      obtain ⟨v, ev, rv⟩ := hv.get hwi
      rw [List.getElem?_map, hi] at ev
      cases ev
      have hz : (keyD p.1, ws[i]) ∈ List.zip (kvs.map fun p => keyD p.1) ws := List.mem_iff_getElem?.mpr ⟨i, by rw [List.getElem?_zip_eq_some]; exact ⟨hk, hwi⟩⟩
      have hq := List.all_eq_true.mp h6 _ hz
      have hg := dgetK (f := keyD) keyEqK p.1 hw
      dsimp only at hq
      cases hdg : dget (lvs.map fun p => keyD p.1) us (keyD p.1) with
      | none => rw [hdg] at hq; cases hq
      | some x =>
        rw [hdg] at hq hg
        obtain ⟨v', e', rv'⟩ := hg
        obtain ⟨e1, e2⟩ := flatEq_V hq rv rv'
        have e1 : p.2 = v' := e1
        exact ⟨by rw [e', ← e1], e2⟩
    · rw [tks_notK] at h2; cases h2
  · rw [tks_notK] at h1; cases h1
theorem op_cop (hu : X.A.units + 65 < cLine) (o : Cop) : OpR X (compareOp (copP o)) (rCop M o) := by
  intro pins s σ H x y v u Q I rx ry h
  obtain ⟨ags, d, e, k, hd, he, hf, q⟩ := h
  have eqn : ∀ {d e}, RelD M ags H d x → RelD M ags H e y → cmpOk d e = true → (Q (.bl (eqD d e)) H → wpAny (model X.prog X.w) X.A (compareOp .Eq v u) (EP X pins σ Q) X.xe s) ∧ (Q (.bl (!eqD d e)) H → wpAny (model X.prog X.w) X.A (compareOp .NotEq v u) (EP X pins σ Q) X.xe s) := by
    intro d e hd he hc
    unfold cmpOk at hc
    simp only [Bool.and_eq_true, Bool.or_eq_true, decide_eq_true_eq] at hc
    obtain ⟨p1, c1⟩ := hd.dp (K := X.K) hc.1.1
    obtain ⟨p2, c2⟩ := he.dp (K := X.K) hc.1.2
    obtain ⟨as, r1⟩ := Dp.reads I _ x v p1 rx
    obtain ⟨bs, r2⟩ := Dp.reads I _ y u p2 ry
    have room := (min_room hu hc.2).1
    rw [← depP, ← depP] at room
    refine ⟨fun q => SeqAt.compareEq_reads r1 r2 c1 c2 room ?_, fun q => SeqAt.compareNe_reads r1 r2 c1 c2 room ?_⟩
    · rw [eqP _ _ hc.1.1 hc.1.2]; exact ⟨.bl _, H, I, rfl, q⟩
    · rw [eqP _ _ hc.1.1 hc.1.2]; exact ⟨.bl _, H, I, rfl, q⟩
  unfold copD at hf
  split at hf
  · split at hf
    · rename_i hc; cases hf; exact (eqn hd he hc).1 q
    · split at hf
      · rename_i hq; cases hf
        obtain ⟨a, b, ks, ls, h1, h2, h3, h4, h5, h6⟩ := dEq_ok hq hd he
        exact op_eq_dR (by omega) pins s σ H x y v u Q I rx ry ⟨a, b, ks, ls, h1, h2, h3, h4, h5, h6, q⟩
      · cases hf
  · split at hf
    · rename_i hc; cases hf; exact (eqn hd he hc).2 q
    · split at hf
      · rename_i hq; cases hf
        obtain ⟨a, b, ks, ls, h1, h2, h3, h4, h5, h6⟩ := dEq_ok hq hd he
        exact op_ne_dR (by omega) pins s σ H x y v u Q I rx ry ⟨a, b, ks, ls, h1, h2, h3, h4, h5, h6, q⟩
      · cases hf
  · cases hd.int; cases he.int; cases hf
    exact op_lt pins s σ H _ _ v u Q I rx ry ⟨_, _, rfl, rfl, q⟩
  · cases hd.int; cases he.int; cases hf
    exact op_le pins s σ H _ _ v u Q I rx ry ⟨_, _, rfl, rfl, q⟩
  · cases hd.int; cases he.int; cases hf
    exact op_gt pins s σ H _ _ v u Q I rx ry ⟨_, _, rfl, rfl, q⟩
  · cases hd.int; cases he.int; cases hf
    exact op_ge pins s σ H _ _ v u Q I rx ry ⟨_, _, rfl, rfl, q⟩
  · obtain ⟨rfl, _⟩ := hd.str; obtain ⟨rfl, _⟩ := he.str; cases hf
    exact op_lt_str pins s σ H _ _ v u Q I rx ry ⟨_, _, rfl, rfl, by rw [str_eq, str_eq]; exact q⟩
  · obtain ⟨rfl, _⟩ := hd.str; obtain ⟨rfl, _⟩ := he.str; cases hf
    exact op_le_str pins s σ H _ _ v u Q I rx ry ⟨_, _, rfl, rfl, by rw [str_eq, str_eq]; exact q⟩
  · obtain ⟨rfl, _⟩ := hd.str; obtain ⟨rfl, _⟩ := he.str; cases hf
    exact op_gt_str pins s σ H _ _ v u Q I rx ry ⟨_, _, rfl, rfl, by rw [str_eq, str_eq]; exact q⟩
  · obtain ⟨rfl, _⟩ := hd.str; obtain ⟨rfl, _⟩ := he.str; cases hf
    exact op_ge_str pins s σ H _ _ v u Q I rx ry ⟨_, _, rfl, rfl, by rw [str_eq, str_eq]; exact q⟩
  · exact (in_any hu I rx ry hd he hf).1 q
  · obtain ⟨k', e', rfl⟩ := Option.map_eq_some_iff.mp hf
    exact (in_any hu I rx ry hd he e').2 q
  · rcases isD_ok hd he hf with ⟨rfl, rfl⟩ | ⟨b, rfl, rfl⟩
    · cases ry; exact is_none_gen ⟨.bl _, H, I, by rw [rx.none_iff]; rfl, q⟩
    · cases ry; exact is_bool_gen rx ⟨.bl _, H, I, by rw [RelV.bool_iff rx]; rfl, q⟩
  · obtain ⟨k', e', rfl⟩ := Option.map_eq_some_iff.mp hf
    rcases isD_ok hd he e' with ⟨rfl, rfl⟩ | ⟨b, rfl, rfl⟩
    · cases ry; exact isnot_none_gen ⟨.bl _, H, I, by rw [rx.none_iff]; rfl, q⟩
    · cases ry; exact isnot_bool_gen rx ⟨.bl _, H, I, by rw [RelV.bool_iff rx]; rfl, q⟩
  · cases hf
end
end PV

/-! ## PV: built-ins by values -/
namespace PV
open PySem PySem.Spec PyProof.Rows L2

/-! ### order -/
theorem insB_perm {α : Type} (lt : α → α → Bool) (x : α) : ∀ l : List α, (insB lt x l).Perm (x :: l)
  | [] => .refl _
  | y :: r => by
    unfold insB
    split
    · exact ((insB_perm lt x r).cons y).trans (.swap x y r)
    · exact .refl _
theorem sortB_perm {α : Type} (lt : α → α → Bool) : ∀ l : List α, (sortB lt l).Perm l
  | [] => .refl _
  | x :: r => by
    show (insB lt x (sortB lt r)).Perm _
    exact (insB_perm lt x _).trans ((sortB_perm lt r).cons x)
theorem insB_sorted {α : Type} {lt : α → α → Bool} (tot : ∀ x y, lt x y = true → lt y x = false) (tr : ∀ x y z, lt y x = false → lt z y = false → lt z x = false) (x : α) :
    ∀ l : List α, l.Pairwise (fun a b => lt b a = false) → (insB lt x l).Pairwise fun a b => lt b a = false
  | [], _ => by simp [insB]
  | y :: r, h => by
    obtain ⟨h1, h2⟩ := List.pairwise_cons.mp h
    unfold insB
    split
    · rename_i c
      refine List.pairwise_cons.mpr ⟨fun z hz => ?_, insB_sorted tot tr x r h2⟩
      rcases List.mem_cons.mp ((insB_perm lt x r).mem_iff.mp hz) with e | e
      · subst e; exact tot _ _ c
      · exact h1 z e
    · rename_i c
      have c : lt y x = false := by simpa using c
      refine List.pairwise_cons.mpr ⟨fun z hz => ?_, h⟩
      rcases List.mem_cons.mp hz with e | e
      · subst e; exact c
      · exact tr _ _ _ c (h1 z e)
theorem sortB_sorted {α : Type} {lt : α → α → Bool} (tot : ∀ x y, lt x y = true → lt y x = false) (tr : ∀ x y z, lt y x = false → lt z y = false → lt z x = false) :
    ∀ l : List α, (sortB lt l).Pairwise fun a b => lt b a = false
  | [] => .nil
  | x :: r => insB_sorted tot tr x _ (sortB_sorted tot tr r)
/-- two arrangements of one list in a total order are one -/
theorem sorted_uniq {α : Type} {lt : α → α → Bool} (anti : ∀ x y, lt x y = false → lt y x = false → x = y) : ∀ {l m : List α}, l.Perm m → l.Pairwise (fun a b => lt b a = false) → m.Pairwise (fun a b => lt b a = false) → l = m
  | [], m, p, _, _ => (List.Perm.nil_eq p)
  | x :: l, [], p, _, _ => absurd p.length_eq (by simp)
  | x :: l, y :: m, p, hl, hm => by
    obtain ⟨h1, h2⟩ := List.pairwise_cons.mp hl
    obtain ⟨k1, k2⟩ := List.pairwise_cons.mp hm
    have e : x = y := by
      rcases List.mem_cons.mp (p.mem_iff.mp (List.mem_cons_self (a := x))) with e | e
      · exact e
      · rcases List.mem_cons.mp (p.mem_iff.mpr (List.mem_cons_self (a := y))) with e' | e'
        · exact e'.symm
        · exact anti _ _ (k1 x e) (h1 y e')
    subst e
    rw [sorted_uniq anti (List.Perm.cons_inv p) h2 k2]
theorem sortI_eq {l m : List Int} (p : m.Perm l) (h : m.Pairwise (· ≤ ·)) : m = sortI l := by
  refine sorted_uniq (lt := fun x y : Int => decide (x < y)) (fun x y a b => ?_) (p.trans (sortB_perm _ l).symm) (h.imp fun {a b} c => decide_eq_false (by omega)) (sortB_sorted (fun x y a => ?_) (fun x y z a b => ?_) l)
  · have := of_decide_eq_false a; have := of_decide_eq_false b; omega
  · have := of_decide_eq_true a; exact decide_eq_false (by omega)
  · have := of_decide_eq_false a; have := of_decide_eq_false b; exact decide_eq_false (by omega)
theorem lexN_tot (x y : List Nat) (h : lexLtN x y = true) : lexLtN y x = false := decide_eq_false (List.not_lt.mpr (List.le_of_lt (of_decide_eq_true h)))
theorem lexN_tr (x y z : List Nat) (h : lexLtN y x = false) (k : lexLtN z y = false) : lexLtN z x = false :=
  decide_eq_false (List.not_lt.mpr (List.le_trans (List.not_lt.mp (of_decide_eq_false h)) (List.not_lt.mp (of_decide_eq_false k))))
theorem lexN_anti (x y : List Nat) (h : lexLtN x y = false) (k : lexLtN y x = false) : x = y :=
  List.le_antisymm (List.not_lt.mp (of_decide_eq_false k)) (List.not_lt.mp (of_decide_eq_false h))

theorem risingS_pair : ∀ (r : List Str) (p : Str), risingS p r = true → (p.cps.toList :: r.map (fun x => x.cps.toList)).Pairwise fun a b => lexLtN b a = false
  | [], p, _ => by simp
  | x :: r, p, h => by
    have h' : (!Spec.ltCps x.cps.toList p.cps.toList && risingS x r) = true := h
    rw [Bool.and_eq_true, ltCps_eq] at h'
    have ih := risingS_pair r x h'.2
    have h1 : lexLtN x.cps.toList p.cps.toList = false := by simpa [lexLtN] using h'.1
    refine List.pairwise_cons.mpr ⟨fun z hz => ?_, ih⟩
    rw [List.map_cons] at hz
    rcases List.mem_cons.mp hz with e | e
    · subst e; exact h1
    · exact lexN_tr _ _ _ h1 ((List.pairwise_cons.mp ih).1 z e)
theorem sortS_eq {ys xs : List Str} (p : ys.Perm xs) (h : sortedS ys = true) : ys.map (fun x => x.cps.toList) = sortS (xs.map fun x => x.cps.toList) := by
  have hs : (ys.map (fun x => x.cps.toList)).Pairwise fun a b => lexLtN b a = false := by
    cases ys with
    | nil => simp
    | cons x r => exact risingS_pair r x h
  exact sorted_uniq (lt := lexLtN) lexN_anti ((p.map _).trans (sortB_perm _ _).symm) hs (sortB_sorted lexN_tot lexN_tr _)

theorem ltPr_tot (x y : Int × Int) (h : ltPr x y = true) : ltPr y x = false := by
  unfold ltPr at *
  simp only [Bool.or_eq_true, Bool.and_eq_true, decide_eq_true_eq, beq_iff_eq, Bool.or_eq_false_iff, Bool.and_eq_false_iff, decide_eq_false_iff_not, beq_eq_false_iff_ne] at *
  omega
theorem ltPr_tr (x y z : Int × Int) (h : ltPr y x = false) (k : ltPr z y = false) : ltPr z x = false := by
  unfold ltPr at *
  simp only [Bool.or_eq_false_iff, Bool.and_eq_false_iff, decide_eq_false_iff_not, beq_eq_false_iff_ne] at *
  omega
theorem ltPr_anti (x y : Int × Int) (h : ltPr x y = false) (k : ltPr y x = false) : x = y := by
  unfold ltPr at *
  simp only [Bool.or_eq_false_iff, Bool.and_eq_false_iff, decide_eq_false_iff_not, beq_eq_false_iff_ne] at *
  exact Prod.ext (by omega) (by omega)
theorem sortP_eq {l m : List (Int × Int)} (p : m.Perm l) (h : m.Pairwise fun a b => ltPr b a = false) : m = sortP l :=
  sorted_uniq (lt := ltPr) ltPr_anti (p.trans (sortB_perm _ l).symm) h (sortB_sorted ltPr_tot ltPr_tr l)
theorem foldl_min_le : ∀ (l : List Int) (i : Int), l.foldl min i ≤ i ∧ (∀ x ∈ l, l.foldl min i ≤ x) ∧ (l.foldl min i = i ∨ l.foldl min i ∈ l)
  | [], i => ⟨Int.le_refl _, (fun _ h => nomatch h), .inl rfl⟩
  | x :: r, i => by
    obtain ⟨h1, h2, h3⟩ := foldl_min_le r (min i x)
    show r.foldl min (min i x) ≤ i ∧ (∀ y ∈ x :: r, r.foldl min (min i x) ≤ y) ∧ (r.foldl min (min i x) = i ∨ r.foldl min (min i x) ∈ x :: r)
    refine ⟨by omega, fun y hy => ?_, ?_⟩
    · rcases List.mem_cons.mp hy with e | e
      · subst e; omega
      · exact h2 y e
    · rcases h3 with e | e
      · rw [e]
        rcases Int.le_total i x with h | h
        · exact .inl (by omega)
        · exact .inr (List.mem_cons.mpr (.inl (by omega)))
      · exact .inr (List.mem_cons_of_mem _ e)
theorem foldl_max_le : ∀ (l : List Int) (i : Int), i ≤ l.foldl max i ∧ (∀ x ∈ l, x ≤ l.foldl max i) ∧ (l.foldl max i = i ∨ l.foldl max i ∈ l)
  | [], i => ⟨Int.le_refl _, (fun _ h => nomatch h), .inl rfl⟩
  | x :: r, i => by
    obtain ⟨h1, h2, h3⟩ := foldl_max_le r (max i x)
    show i ≤ r.foldl max (max i x) ∧ (∀ y ∈ x :: r, y ≤ r.foldl max (max i x)) ∧ (r.foldl max (max i x) = i ∨ r.foldl max (max i x) ∈ x :: r)
    refine ⟨by omega, fun y hy => ?_, ?_⟩
    · rcases List.mem_cons.mp hy with e | e
      · subst e; omega
      · exact h2 y e
    · rcases h3 with e | e
      · rw [e]
        rcases Int.le_total i x with h | h
        · exact .inr (List.mem_cons.mpr (.inl (by omega)))
        · exact .inl (by omega)
      · exact .inr (List.mem_cons_of_mem _ e)

/-! ### the text of data -/
def OkS (x : Str) : Prop := ∀ c ∈ x.cps.toList, c < 1114112
theorem okS_str (s : String) : OkS (Str.ofString s) := by
  intro c hc
  rw [Str.ofString_eq_toList] at hc
  have hc : c ∈ s.toList.map Char.toNat := by simpa using hc
  obtain ⟨ch, _, rfl⟩ := List.mem_map.mp hc
  have h := ch.valid
  have e : ch.toNat = ch.val.toNat := rfl
  rw [e]
  simp only [UInt32.isValidChar, Nat.isValidChar] at h
  omega
theorem okS_app {x y : Str} (h : OkS x) (k : OkS y) : OkS (x ++ y) := by
  intro c hc
  have hc : c ∈ (x.cps ++ y.cps).toList := hc
  rw [Array.toList_append] at hc
  exact (List.mem_append.mp hc).elim (h c) (k c)
theorem okS_join {s : Str} (h : OkS s) : ∀ ts : List Str, (∀ t ∈ ts, OkS t) → OkS (Str.join s ts)
  | [], _ => fun c hc => by cases (show c ∈ ([] : List Nat) from hc)
  | [x], k => k x (List.mem_cons_self ..)
  | x :: y :: r, k => okS_app (okS_app (k x (List.mem_cons_self ..)) h) (okS_join h (y :: r) fun t ht => k t (List.mem_cons_of_mem _ ht))
theorem okS_from : ∀ (ts : List Str) (k : Nat) (acc : Str), OkS acc → (∀ t ∈ ts, OkS t) → OkS (textFrom k acc ts)
  | [], _, _, h, _ => h
  | t :: r, k, acc, h, q => by
    refine okS_from r (k + 1) _ (okS_app (okS_app h ?_) (q t (List.mem_cons_self ..))) fun z hz => q z (List.mem_cons_of_mem _ hz)
    split <;> exact okS_str _
theorem ok_digits (c : Nat) : ∀ d ∈ (Nat.toDigits 16 c).map Char.toNat, d < 1114112 := by
  intro d hd
  obtain ⟨ch, _, rfl⟩ := List.mem_map.mp hd
  have h := ch.valid
  have e : ch.toNat = ch.val.toNat := rfl
  rw [e]
  simp only [UInt32.isValidChar, Nat.isValidChar] at h
  omega
theorem ok_reprChar (q c : Nat) (hq : q < 1114112) (hc : c < 1114112) : ∀ d ∈ Builtin.Str.reprChar q c, d < 1114112 := by
  have hex : ∀ w, ∀ d ∈ List.replicate (w - ((Nat.toDigits 16 c).map Char.toNat).length) 48 ++ (Nat.toDigits 16 c).map Char.toNat, d < 1114112 := fun w d hd => by
    rcases List.mem_append.mp hd with hd | hd
    · rw [List.eq_of_mem_replicate hd]; decide
    · exact ok_digits c d hd
  intro d hd
  unfold Builtin.Str.reprChar at hd
  dsimp only at hd
  split at hd
  · rcases List.mem_cons.mp hd with e | hd
    · subst e; decide
    · rcases List.mem_cons.mp hd with e | hd
      · subst e; exact hc
      · cases hd
  split at hd
  · simp at hd; omega
  split at hd
  · simp at hd; omega
  split at hd
  · simp at hd; omega
  split at hd
  · rcases List.mem_cons.mp hd with e | hd
    · subst e; exact hc
    · cases hd
  split at hd
  · rcases List.mem_append.mp hd with hd | hd
    · simp at hd; omega
    · exact hex 2 d hd
  split at hd
  · rcases List.mem_append.mp hd with hd | hd
    · simp at hd; omega
    · exact hex 4 d hd
  · rcases List.mem_append.mp hd with hd | hd
    · simp at hd; omega
    · exact hex 8 d hd
theorem foldl_mem (q : Nat) (hq : q < 1114112) : ∀ (l : List Nat) (acc : Array Nat), (∀ c ∈ l, c < 1114112) → (∀ c ∈ acc.toList, c < 1114112) → ∀ c ∈ (l.foldl (fun out c => out ++ (Builtin.Str.reprChar q c).toArray) acc).toList, c < 1114112
  | [], _, _, h => h
  | x :: r, acc, h, k => by
    rw [List.foldl_cons]
    refine foldl_mem q hq r _ (fun c hc => h c (List.mem_cons_of_mem _ hc)) fun c hc => ?_
    rw [Array.toList_append] at hc
    rcases List.mem_append.mp hc with hc | hc
    · exact k c hc
    · exact ok_reprChar q x hq (h x (List.mem_cons_self ..)) c (by simpa using hc)
theorem okS_repr {x : Str} (h : OkS x) : OkS (reprText x) := by
  have hq : reprQuote x < 1114112 := by
    unfold reprQuote
    split <;> decide
  intro c hc
  unfold reprText at hc
  have hc : c ∈ ((x.cps.foldl (fun out c => out ++ (Builtin.Str.reprChar (reprQuote x) c).toArray) #[reprQuote x]).push (reprQuote x)).toList := hc
  rw [Array.toList_push] at hc
  rcases List.mem_append.mp hc with hc | hc
  · rw [← Array.foldl_toList] at hc
    exact foldl_mem _ hq _ _ h (fun c hc => by simp at hc; omega) c hc
  · simp at hc; omega
mutual
def OkP : PyData → Prop
  | .str x => OkS x
  | .list xs => OkPs xs
  | .tuple xs => OkPs xs
  | .dict kvs => OkPk kvs
  | _ => True
def OkPs : List PyData → Prop
  | [] => True
  | x :: r => OkP x ∧ OkPs r
def OkPk : List (PyData × PyData) → Prop
  | [] => True
  | (k, v) :: r => OkP k ∧ OkP v ∧ OkPk r
end
mutual
theorem okS_shown : ∀ d : PyData, OkP d → OkS d.shown
  | .none, _ => okS_str _
  | .bool b, _ => by simp only [PyData.shown]; split <;> exact okS_str _
  | .int i, _ => okS_str _
  | .str x, h => okS_repr h
  | .list xs, h => by
    simp only [PyData.shown]
    exact okS_app (okS_from _ _ _ (okS_str _) (okS_shownAll xs h)) (okS_str _)
  | .tuple xs, h => by
    simp only [PyData.shown]
    unfold tupleText
    refine okS_app (okS_app (okS_str _) (okS_join (okS_str _) _ (okS_shownAll xs h))) ?_
    split <;> exact okS_str _
  | .dict kvs, h => by
    simp only [PyData.shown]
    unfold dictText
    exact okS_app (okS_app (okS_str _) (okS_join (okS_str _) _ (okS_shownKv kvs h))) (okS_str _)
theorem okS_shownAll : ∀ ds : List PyData, OkPs ds → ∀ t ∈ PyData.shownAll ds, OkS t
  | [], _, _, ht => by simp only [PyData.shownAll] at ht; cases ht
  | d :: ds, h, t, ht => by
    simp only [PyData.shownAll] at ht
    rcases List.mem_cons.mp ht with e | ht
    · subst e; exact okS_shown d h.1
    · exact okS_shownAll ds h.2 t ht
theorem okS_shownKv : ∀ ds : List (PyData × PyData), OkPk ds → ∀ t ∈ PyData.shownKv ds, OkS t
  | [], _, _, ht => by simp only [PyData.shownKv] at ht; cases ht
  | (k, v) :: ds, h, t, ht => by
    simp only [PyData.shownKv] at ht
    rcases List.mem_cons.mp ht with e | ht
    · subst e; exact okS_app (okS_app (okS_shown k h.1) (okS_str _)) (okS_shown v h.2.1)
    · exact okS_shownKv ds h.2.2 t ht
end
end PV

/-! ## PV: calls of built-ins by values -/
namespace PV
open PySem PySem.Spec PyProof.Rows L2

section
variable {X : Cx} {M : Nm} {pins : List (Addr × Obj)} {s : Shared} {σ : L2.St} {H : Hp} {Q : VK} {O : Adr} {ags : List Addr} {Ex : Adr} {W : Nat → Option Addr} {S : List D}
/-! ### what data reads as -/
mutual
theorem VR.rd (I : Inv X pins σ H s) : ∀ (d : D) (v : V) (u : Value), VR M ags Ex H d v → RelV v u → showOk d = true → (∃ as, Reads s.heap u (toR d) as) ∧ (toR d).hasDict = false ∧ (toR d).showable = true ∧ (toR d).depth = dep d ∧ OkP (toR d)
  | .non, _, _, h, r, _ => by cases (show _ = V.non from h); cases r; exact ⟨⟨_, Reads.none⟩, rfl, rfl, rfl, trivial⟩
  | .bl b, _, _, h, r, _ => by cases (show _ = V.bl b from h); cases r; exact ⟨⟨_, Reads.bool b⟩, rfl, rfl, rfl, trivial⟩
  | .int i, _, _, h, r, k => by cases (show _ = V.int i from h); obtain ⟨t, rfl⟩ := r; exact ⟨⟨_, Reads.int i t⟩, rfl, k, rfl, trivial⟩
  | .str x, _, _, h, r, _ => by
    obtain ⟨rfl, g⟩ := h
    obtain ⟨t, rfl⟩ := r
    refine ⟨⟨_, Reads.str _ t⟩, rfl, rfl, rfl, fun c hc => ?_⟩
    rw [str_eq] at hc
    exact g.ok c hc
  | .lst ds, _, _, h, r, k => by
    obtain ⟨a, vs, rfl, n, hr, q⟩ := h
    cases r
    obtain ⟨its, rv, ⟨o, n, ho, hc, _, hd⟩, _⟩ := I.list (SqL.of hr)
    obtain ⟨⟨as, h1⟩, h2, h3, h4, h5⟩ := VRs.rd I ds vs its q rv k
    exact ⟨⟨_, Reads.list ho hc hd h1⟩, h2, h3, by show PyData.depthAll (toRs ds) + 1 = deps ds + 1; rw [h4], h5⟩
  | .tup ds, _, _, h, r, k => by
    obtain ⟨a, vs, rfl, n, hr, q⟩ := h
    cases r
    obtain ⟨its, rv, ⟨o, ho, hc, n, hd⟩, _⟩ := I.tuple (SqT.of hr)
    obtain ⟨⟨as, h1⟩, h2, h3, h4, h5⟩ := VRs.rd I ds vs its q rv k
    exact ⟨⟨_, Reads.tuple ho hc hd h1⟩, h2, h3, by show PyData.depthAll (toRs ds) + 1 = deps ds + 1; rw [h4], h5⟩
  | .dct _ _, _, _, _, _, hd => by cases hd
  | .exc _ _, _, _, _, _, hd => by cases hd
  | .fn _, _, _, _, _, hd => by cases hd
  | .ref _, _, _, _, _, hd => by cases hd
  | .scr _, _, _, _, _, hd => by cases hd
theorem VRs.rd (I : Inv X pins σ H s) : ∀ (ds : List D) (vs : List V) (us : List Value), VRs M ags Ex H ds vs → Vals vs us → showsOk ds = true → (∃ as, ReadsAll s.heap us (toRs ds) as) ∧ PyData.hasDictAll (toRs ds) = false ∧ PyData.showableAll (toRs ds) = true ∧ PyData.depthAll (toRs ds) = deps ds ∧ OkPs (toRs ds)
  | [], _, _, h, r, _ => by
    cases (show _ = [] from h); cases r
    exact ⟨⟨_, ReadsAll.nil⟩, rfl, rfl, rfl, trivial⟩
  | d :: ds, _, _, h, r, k => by
    obtain ⟨v, t, rfl, h1, h2⟩ := h
    cases r with
    | cons r1 r2 =>
      have k2 : showOk d = true ∧ showsOk ds = true := by simpa [showsOk] using k
      obtain ⟨⟨as, a1⟩, a2, a3, a4, a5⟩ := VR.rd I d v _ h1 r1 k2.1
      obtain ⟨⟨bs, b1⟩, b2, b3, b4, b5⟩ := VRs.rd I ds t _ h2 r2 k2.2
      refine ⟨⟨_, ReadsAll.cons a1 b1⟩, ?_, ?_, ?_, a5, b5⟩
      · show ((toR d).hasDict || PyData.hasDictAll (toRs ds)) = false
        rw [a2, b2]; rfl
      · show ((toR d).showable && PyData.showableAll (toRs ds)) = true
        rw [a3, b3]; rfl
      · show max (toR d).depth (PyData.depthAll (toRs ds)) = max (dep d) (deps ds)
        rw [a4, b4]
end
theorem RelN.vr0 {d : D} {v : V} (h : RelN M O ags W H d v) : VR M ags (fun _ => False) H d v := h.d

/-! ### built-in functions -/
def RelNs (M : Nm) (O : Adr) (ags : List Addr) (W : Nat → Option Addr) (H : Hp) : List D → List V → Prop
  | [], vs => vs = []
  | d :: ds, vs => ∃ v r, vs = v :: r ∧ RelN M O ags W H d v ∧ RelNs M O ags W H ds r
theorem RelNs.one {d : D} {vs : List V} (h : RelNs M O ags W H [d] vs) : ∃ v, vs = [v] ∧ RelN M O ags W H d v := by
  obtain ⟨v, r, rfl, h1, h2⟩ := h
  cases (show r = [] from h2)
  exact ⟨v, rfl, h1⟩
theorem RelNs.two {d e : D} {vs : List V} (h : RelNs M O ags W H [d, e] vs) : ∃ v w, vs = [v, w] ∧ RelN M O ags W H d v ∧ RelN M O ags W H e w := by
  obtain ⟨v, r, rfl, h1, h2⟩ := h
  obtain ⟨w, rfl, h3⟩ := h2.one
  exact ⟨v, w, rfl, h1, h3⟩
theorem RelNs.three {d e f : D} {vs : List V} (h : RelNs M O ags W H [d, e, f] vs) : ∃ v w u, vs = [v, w, u] ∧ RelN M O ags W H d v ∧ RelN M O ags W H e w ∧ RelN M O ags W H f u := by
  obtain ⟨v, r, rfl, h1, h2⟩ := h
  obtain ⟨w, u, rfl, h3, h4⟩ := h2.two
  exact ⟨v, w, u, rfl, h1, h3, h4⟩
/-- pairs of ints -/
theorem VRs.prs : ∀ {ds : List D} {vs : List V} {l : List (Int × Int)}, VRs M ags Ex H ds vs → prsOf ds = some l → ∃ k : V → Int × Int, (∀ x ∈ vs, ∃ t, x = V.ref t ∧ ¬ Ex t ∧ H t = some (.tup [.int (k x).1, .int (k x).2])) ∧ l = vs.map k := by
  have main : ∀ {ds : List D} {vs : List V} {l : List (Int × Int)}, VRs M ags Ex H ds vs → prsOf ds = some l → (∀ x ∈ vs, ∃ t i j, x = V.ref t ∧ ¬ Ex t ∧ H t = some (.tup [.int i, .int j])) ∧ l = vs.map fun x => match x with | .ref t => (match H t with | some (.tup [.int i, .int j]) => (i, j) | _ => (0, 0)) | _ => (0, 0) := by
    intro ds
    induction ds with
    | nil => intro vs l h e; cases (show _ = [] from h); cases e; exact ⟨(fun _ h => nomatch h), rfl⟩
    | cons d ds ih =>
      intro vs l h e
      obtain ⟨v, r, rfl, h1, h2⟩ := h
      unfold prsOf at e
      split at e
      · rename_i heq; cases heq
      · rename_i i j r' heq
        cases heq
        obtain ⟨l', e1, rfl⟩ := Option.map_eq_some_iff.mp e
        obtain ⟨i1, i2⟩ := ih h2 e1
        obtain ⟨t, ws, rfl, nt, ht, v1, r1, rfl, q1, v2, r2, rfl, q2, q3⟩ := h1
        cases (show v1 = .int i from q1)
        cases (show v2 = .int j from q2)
        cases (show r2 = [] from q3)
        refine ⟨fun x hx => ?_, ?_⟩
        · rcases List.mem_cons.mp hx with e | hx
          · subst e; exact ⟨t, i, j, rfl, nt, ht⟩
          · exact i1 x hx
        · rw [List.map_cons, ← i2]
          simp only [ht]
      · cases e
  intro ds vs l h e
  obtain ⟨a, b⟩ := main h e
  refine ⟨_, fun x hx => ?_, b⟩
  obtain ⟨t, i, j, rfl, nt, ht⟩ := a x hx
  exact ⟨t, rfl, nt, by simp only [ht]⟩
theorem nuMin2I (i j : Int) : nuMin2 (.int i) (.int j) = some (.int (min i j)) := by
  show some (if decide (j < i) = true then V.int j else V.int i) = _
  by_cases h : j < i
  · rw [decide_eq_true h, if_pos rfl, show min i j = j by omega]
  · rw [decide_eq_false h, if_neg Bool.false_ne_true, show min i j = i by omega]
theorem nuMin3I (i j k : Int) : nuMin3 (.int i) (.int j) (.int k) = some (.int (min (min i j) k)) := by
  unfold nuMin3
  rw [nuMin2I]
  exact nuMin2I _ _
theorem ltPr_lexB (p q : Int × Int) : SrtO.lexB p q = ltPr p q := by
  rw [Bool.eq_iff_iff, SrtO.lexB_iff]
  unfold ltPr
  simp only [Bool.or_eq_true, Bool.and_eq_true, decide_eq_true_eq, beq_iff_eq]
def rBI (M : Nm) (b : BI) : List V → Hp → VK → Prop := fun vs H Q => ∃ O ags W S ds f, RelNs M O ags W H ds vs ∧ biD b ds = some f ∧ Gives M f H Q O ags W S
def biV : BI → Value
  | .len => .builtin "len" | .int => .type "int" | .max => .builtin "max" | .min => .builtin "min" | .abs => .builtin "abs" | .repr => .builtin "repr"
  | .sorted => .builtin "sorted" | .str => .type "str" | .sum => .builtin "sum" | .all => .builtin "all" | .any => .builtin "any"
theorem good_dec (i : Int) : (Str.ofString (toString i)).cps.toList = decI i := by
  rw [Str.ofString_eq_toList]
  cases i with
  | ofNat n =>
    show (Nat.repr n).toList.map Char.toNat = (Nat.toDigits 10 n).map Char.toNat
    rw [Nat.toList_repr]
  | negSucc n =>
    show (("-" : String) ++ Nat.repr (n + 1)).toList.map Char.toNat = 45 :: (Nat.toDigits 10 (n + 1)).map Char.toNat
    rw [String.toList_append, Nat.toList_repr, List.map_append]
    rfl
theorem dec_lt {i : Int} (h : i.natAbs.log2 < 12900) : i.natAbs < 10 ^ 4300 := Nat.lt_of_lt_of_le (lt_of_log2 h) pow_lo
theorem good_text (i : Int) (h : i.natAbs.log2 < 12900) : Str.ofString (toString i) = ⟨(decI i).toArray⟩ ∧ Good (decI i) := by
  have e := good_dec i
  refine ⟨?_, ?_, ?_⟩
  · rw [← e]
  · have := int_text_fits10 (dec_lt h)
    rw [← e]
    exact this
  · rw [← e]
    exact okS_str _
theorem vals_snd {κ : Type} : ∀ {kvs : List (κ × V)} {vs : List (κ × Value)}, KV kvs vs → Vals (kvs.map (·.2)) (vs.map (·.2))
  | _, _, .nil => .nil
  | _, _, .cons h t => .cons h.2 (vals_snd t)
theorem reads_flat {h : Heap} {d : D} {v : V} {u : Value} (hv : VR M ags Ex H d v) (r : RelV v u) (k : (flatD d && showOk d) = true) : Reads h u (toR d) [] ∧ (toR d).showable = true ∧ (toR d).depth = 0 ∧ OkP (toR d) := by
  cases d with
  | non => cases (show v = V.non from hv); cases r; exact ⟨.none, rfl, rfl, trivial⟩
  | bl b => cases (show v = V.bl b from hv); cases r; exact ⟨.bool b, rfl, rfl, trivial⟩
  | int i => cases (show v = V.int i from hv); obtain ⟨t, rfl⟩ := r; refine ⟨.int i t, ?_, rfl, trivial⟩; simpa [flatD, showOk, toR, PyData.showable] using k
  | str x =>
    obtain ⟨rfl, g⟩ := hv
    obtain ⟨t, rfl⟩ := r
    exact ⟨.str _ t, rfl, rfl, fun c hc => by rw [str_eq] at hc; exact g.ok c hc⟩
  | _ => cases k
theorem reads_flats {h : Heap} : ∀ {ds : List D} {vs : List V} {us : List Value}, VRs M ags Ex H ds vs → Vals vs us → (ds.all fun v => flatD v && showOk v) = true → ReadsAll h us (ds.map toR) []
  | [], _, _, hv, r, _ => by cases (show _ = [] from hv); cases r; exact .nil
  | d :: ds, _, _, hv, r, k => by
    obtain ⟨v, t, rfl, h1, h2⟩ := hv
    cases r with
    | cons r1 r2 =>
      rw [List.all_cons, Bool.and_eq_true] at k
      exact .cons (reads_flat h1 r1 k.1).1 (reads_flats h2 r2 k.2)
theorem keys_vr : ∀ {kvs : List (Key × V)}, (∀ p ∈ kvs, KeyG p.1) → VRs M ags Ex H (kvs.map fun p => keyD p.1) (kvs.map fun p => kV p.1)
  | [], _ => rfl
  | (.inl i, v) :: r, g => ⟨_, _, rfl, rfl, keys_vr fun p hp => g p (List.mem_cons_of_mem _ hp)⟩
  | (.inr x, v) :: r, g => ⟨_, _, rfl, ⟨by simp [kV], g _ (List.mem_cons_self ..)⟩, keys_vr fun p hp => g p (List.mem_cons_of_mem _ hp)⟩
theorem pairs_keys {P : Program} {w : World} : ∀ {es : List DictEntry} {kvs : List (Key × V)} {vs : List (Key × Value)}, KV kvs vs → PySem.Pairs (mixKind P w) es vs → Vals (kvs.map fun p => kV p.1) (es.map (·.key)) ∧ Vals (kvs.map (·.2)) (es.map (·.val))
  | _, _, _, .nil, .nil => ⟨.nil, .nil⟩
  | _, _, _, .cons (a := p) (b := q) h t, .cons h1 h2 h3 => by
    obtain ⟨i1, i2⟩ := pairs_keys t h3
    refine ⟨.cons ?_ i1, .cons (by dsimp only; rw [h2]; exact h.2) i2⟩
    rw [← h.1] at h1
    rcases keyIs_shape h1 with ⟨i, t, e1, e2⟩ | ⟨x, t, e1, e2⟩
    · show RelV (kV p.1) _; dsimp only; rw [e1, e2]; exact ⟨t, rfl⟩
    · show RelV (kV p.1) _; dsimp only; rw [e1, e2]; exact ⟨t, rfl⟩
theorem okP_flats : ∀ {ds : List D} {vs : List V}, VRs M ags Ex H ds vs → (∀ d ∈ ds, OkP (toR d) ∧ (toR d).showable = true ∧ (toR d).depth = 0) ∨ True
  | _, _, _ => .inr trivial
theorem repr_any (hg : X.A.guards = some []) (hu : X.A.units + 65 < cLine) {x : D} {v : V} {u : Value} (I : Inv X pins σ H s) (hv : VR M ags Ex H x v) (r : RelV v u) (hk : showOkd x = true) (hd : dep x ≤ 60) (hz : (reprS x).length ≤ sizeLine)
    (q : Good (reprS x) → Q (.str ⟨(reprS x).toArray⟩) H) : wpAny (model X.prog X.w) X.A (call (.builtin "repr") [u]) (EP X pins σ Q) X.xe s := by
  have fin : ∀ {d : PyData} {h' : Heap} {t : Tok} {tk : Nat}, toRd x = d → OkP d → (∀ b o, s.heap.get? b = some o → h'.get? b = some o) → EP X pins σ Q (.str d.shown t) { s with heap := h', toks := tk } := fun {d h' t tk} e ok hk => by
    subst e
    have g : Good (reprS x) := ⟨hz, okS_shown _ ok⟩
    refine ⟨.str ⟨(reprS x).toArray⟩, H, I.kept hk, ⟨t, ?_⟩, q g⟩
    show Value.str (toRd x).shown t = Value.str ⟨((toRd x).shown.cps.toList).toArray⟩ t
    rw [Array.toArray_toList]
  have simple : showOk x = true → toRd x = toR x → wpAny (model X.prog X.w) X.A (call (.builtin "repr") [u]) (EP X pins σ Q) X.xe s := fun hk e => by
    obtain ⟨⟨as, rd⟩, h2, h3, h4, h5⟩ := VR.rd I x v u hv r hk
    have hz' : (toR x).shown.length ≤ sizeLine := by
      have : (reprS x).length = (toR x).shown.length := by unfold reprS; rw [e]; rfl
      omega
    cases x with
    | lst ds =>
      obtain ⟨a, vs, rfl, _, _, _⟩ := hv
      cases r
      exact repr_of_reads' rd h3 (fun z => absurd (h2.symm.trans z) Bool.false_ne_true) hg (by rw [h4]; omega) (fun _ _ e => e) (fun h' u tk hk => fin e h5 hk) hz'
    | tup ds =>
      obtain ⟨a, vs, rfl, _, _, _⟩ := hv
      cases r
      exact repr_of_reads' rd h3 (fun z => absurd (h2.symm.trans z) Bool.false_ne_true) hg (by rw [h4]; omega) (fun _ _ e => e) (fun h' u tk hk => fin e h5 hk) hz'
    | int i =>
      cases (show v = V.int i from hv)
      obtain ⟨t, rfl⟩ := r
      exact PySem.P.repr_of_int (by simpa [showOk] using hk) (fin (d := .int i) rfl h5 fun _ _ e => e)
    | str y =>
      obtain ⟨rfl, _⟩ := hv
      obtain ⟨t, rfl⟩ := r
      refine call_repr_gives (PySem.typeIs_str s _ t) F.slot_str_repr F.entry_str_repr (F.args_str_repr_1 _) (gives_str_repr _ t) ?_ (hx := ?_)
      · exact fin (d := .str ⟨y.toArray⟩) rfl h5 fun _ _ e => e
      · exact hz'
    | bl b =>
      cases (show v = V.bl b from hv)
      cases r
      refine call_repr_gives (PySem.typeIs_bool s b) F.slot_bool_repr F.entry_bool_repr (F.args_bool_repr_1 _) (gives_bool_repr b) ?_ (hx := by cases b <;> decide)
      have := fin (d := .bool b) (h' := s.heap) (t := s.toks) (tk := s.toks + 1) rfl h5 fun _ _ e => e
      simp only [PyData.shown] at this
      exact this
    | non =>
      cases (show v = V.non from hv)
      cases r
      refine call_repr_gives (PySem.typeIs_none s) F.slot_NoneType_repr F.entry_NoneType_repr (F.args_NoneType_repr_1 _) gives_none_repr ?_ (hx := by decide)
      have := fin (d := .none) (h' := s.heap) (t := s.toks) (tk := s.toks + 1) rfl h5 fun _ _ e => e
      simp only [PyData.shown] at this
      exact this
    | _ => cases hk
  cases x with
  | dct ks ws =>
    have hk : (ks.all fun k => flatD k && showOk k) = true ∧ (ws.all fun k => flatD k && showOk k) = true := by simpa [showOkd] using hk
    obtain ⟨a, vs, rfl, _, q, dr⟩ := hv
    cases r
    rcases dr with ⟨kvs, hr, e1, e2, kg⟩ | ⟨kvs, hr, e1, e2, _⟩
    · obtain ⟨z, hsm, xs, rel, o, es, ep, ho, hex, hdat, hko, hp, _⟩ := dk_rd I.hok hr
      obtain ⟨p1, p2⟩ := pairs_keys rel hp
      have q1 : VRs M ags Ex H ks (kvs.map fun p => kV p.1) := by rw [e1]; exact keys_vr kg
      rw [← e2] at p2
      have r1 := reads_flats (h := s.heap) q1 p1 hk.1
      have r2 := reads_flats (h := s.heap) q p2 hk.2
      have lk : ks.length = ws.length := by rw [e1, List.length_map, ← q.length, e2, List.length_map]
      have z1 : (List.zip (ks.map toR) (ws.map toR)).map (·.1) = ks.map toR := List.map_fst_zip (by simp [lk])
      have z2 : (List.zip (ks.map toR) (ws.map toR)).map (·.2) = ws.map toR := List.map_snd_zip (by simp [lk])
      have rd : Reads s.heap (.ref a) (.dict (List.zip (ks.map toR) (ws.map toR))) (a :: [] ++ []) := .dict ho hex.1 hdat (by rw [z1]; exact r1) (by rw [z2]; exact r2)
      have facts : ∀ {ds : List D} {vs : List V}, VRs M ags Ex H ds vs → (ds.all fun k => flatD k && showOk k) = true → ∀ x ∈ ds.map toR, x.showable = true ∧ x.depth = 0 ∧ OkP x := by
        intro ds
        induction ds with
        | nil => intro _ _ _ x hx; cases hx
        | cons d ds ih =>
          intro vs hv hk x hx
          obtain ⟨v, t, rfl, h1, h2⟩ := hv
          rw [List.all_cons, Bool.and_eq_true] at hk
          rcases List.mem_cons.mp hx with e | hx
          · subst e
            have : ∃ u, RelV v u := by
              cases v with
              | non => exact ⟨.none, rfl⟩
              | bl b => exact ⟨.bool b, rfl⟩
              | int i => exact ⟨.int i 0, 0, rfl⟩
              | str x => exact ⟨.str x 0, 0, rfl⟩
              | byt x => exact ⟨.bytes x 0, 0, rfl⟩
              | flt x => exact ⟨.float x 0, 0, rfl⟩
              | ref x => exact ⟨.ref x, rfl⟩
              | ty x => exact ⟨.type x, rfl⟩
            obtain ⟨u, ru⟩ := this
            exact (reads_flat (h := s.heap) h1 ru hk.1).2
          · exact ih h2 hk.2 x hx
      have f1 := facts q1 hk.1
      have f2 := facts q hk.2
      have all : ∀ kv : List (PyData × PyData), (∀ p ∈ kv, p.1 ∈ ks.map toR ∧ p.2 ∈ ws.map toR) → PyData.showableKv kv = true ∧ PyData.depthKv kv = 0 ∧ OkPk kv := by
        intro kv
        induction kv with
        | nil => intro _; exact ⟨rfl, rfl, trivial⟩
        | cons p r ih =>
          intro hm
          obtain ⟨k, v⟩ := p
          obtain ⟨i1, i2, i3⟩ := ih fun p hp => hm p (List.mem_cons_of_mem _ hp)
          obtain ⟨m1, m2⟩ := hm (k, v) (List.mem_cons_self ..)
          obtain ⟨a1, a2, a3⟩ := f1 k m1
          obtain ⟨b1, b2, b3⟩ := f2 v m2
          refine ⟨?_, ?_, a3, b3, i3⟩
          · show (k.showable && v.showable && PyData.showableKv r) = true
            rw [a1, b1, i1]; rfl
          · show max (max k.depth v.depth) (PyData.depthKv r) = 0
            rw [a2, b2, i2]; rfl
      obtain ⟨s1, s2, s3⟩ := all (List.zip (ks.map toR) (ws.map toR)) fun p hp => List.of_mem_zip hp
      refine repr_of_reads' rd s1 (fun _ hm => ?_) hg (by show X.A.units + (PyData.depthKv _ + 1 + 1) < _; rw [s2]; omega) (fun _ _ e => e) (fun h' u tk hk => fin rfl s3 hk) ?_
      · have : sysModules = a := by simpa using hm
        rw [← this] at hsm
        simp at hsm
      · exact hz
    · exfalso
      subst e1
      cases kvs with
      | nil =>
        have := hk.1
        simp [tks, flatD] at this
      | cons p r =>
        have := hk.1
        simp [tks, flatD] at this
  | exc _ _ => cases hk
  | fn _ => cases hk
  | ref _ => cases hk
  | scr _ => cases hk
  | _ => exact simple hk rfl
theorem dig_of {K : PySem.W.Frag} {h : Heap} (X : K.In h) (G : h.NoLimit) (e : PySem.W.nsIn K cStatics "sys.int_max_str_digits" = some none) : h.NoDigits := by
  obtain ⟨mc, G, _⟩ := G
  refine ⟨mc, G, ?_⟩
  obtain ⟨o, es, ep, ho, hd, _, hf⟩ := G
  unfold PySem.W.nsIn at e
  split at e
  · rename_i c d es' n' sl q
    have := X _ _ q
    rw [ho] at this
    cases this
    cases hd
    split at e
    · cases e
    · rename_i he
      rw [← hf]
      unfold nsFind findBy
      rw [← Array.find?_toList, he]
      rfl
  · cases e
theorem call_str_big (hh : X.A.handled = none) (hdg : PySem.W.nsIn X.K cStatics "sys.int_max_str_digits" = some none) : CallR X (.type "str") (fun xs H Q => ∃ i, xs = [.int i] ∧ i.natAbs.log2 < 12900 ∧ Q (.str (toString i)) H) := by
  intro pins s σ H xs us Q I r h
  obtain ⟨i, rfl, hz, q⟩ := h
  obtain ⟨u, rfl, t, rfl⟩ := vals1 r
  exact str_of_int_or hh (dig_of I.kIn I.nolimit hdg) (fun _ => ⟨.str _, H, I.tok _, ⟨_, rfl⟩, q⟩) fun hge => absurd (dec_lt hz) (Nat.not_lt.mpr hge)
mutual
theorem toP_R : ∀ d : D, toP d = toR d
  | .non | .bl _ | .int _ | .str _ | .dct _ _ | .exc _ _ | .fn _ | .ref _ | .scr _ => rfl
  | .lst xs => by show PyData.list (toPs xs) = .list (toRs xs); rw [toPs_R xs]
  | .tup xs => by show PyData.tuple (toPs xs) = .tuple (toRs xs); rw [toPs_R xs]
theorem toPs_R : ∀ ds : List D, toPs ds = toRs ds
  | [] => rfl
  | d :: ds => by show toP d :: toPs ds = toR d :: toRs ds; rw [toP_R d, toPs_R ds]
end
theorem dep_in : ∀ {xs : List D} {x : D}, x ∈ xs → dep x ≤ deps xs
  | [], _, h => nomatch h
  | y :: r, x, h => by
    show dep x ≤ max (dep y) (deps r)
    rcases List.mem_cons.mp h with e | h
    · rw [e]; omega
    · have := dep_in h; omega
theorem data_in : ∀ {xs : List D} {x : D}, datasOk xs = true → x ∈ xs → dataOk x = true
  | [], _, _, h => nomatch h
  | y :: r, x, k, h => by
    have k2 : dataOk y = true ∧ datasOk r = true := by simpa [datasOk] using k
    rcases List.mem_cons.mp h with e | h
    · rw [e]; exact k2.1
    · exact data_in k2.2 h
theorem each_of {H : Hp} {Ex : Adr} : ∀ {xs : List D} {ws : List V} {its : List Value}, VRs M ags Ex H xs ws → Vals ws its → PySem.W.EachIs (fun u b => ∃ x, RelV x u ∧ VR M ags Ex H b x) its xs
  | [], _, _, h, k => by cases (show _ = [] from h); cases k; exact .nil
  | d :: ds, _, _, h, k => by
    obtain ⟨v, r, rfl, h1, h2⟩ := h
    cases k with
    | cons k1 k2 => exact .cons ⟨v, k1, h1⟩ (each_of h2 k2)
theorem of_each {H : Hp} {Ex : Adr} : ∀ {xs : List D} {its : List Value}, PySem.W.EachIs (fun u b => ∃ x, RelV x u ∧ VR M ags Ex H b x) its xs → ∃ ws, Vals ws its ∧ VRs M ags Ex H xs ws
  | [], _, h => by cases h; exact ⟨[], .nil, rfl⟩
  | d :: ds, _, h => by
    cases h with
    | cons h1 h2 =>
      obtain ⟨x, k1, k2⟩ := h1
      obtain ⟨ws, k3, k4⟩ := of_each h2
      exact ⟨x :: ws, .cons k1 k3, x, ws, rfl, k2, k4⟩
theorem each_imp {α β : Type} {R R' : α → β → Prop} : ∀ {as : List α} {bs : List β}, PySem.W.EachIs R as bs → (∀ b ∈ bs, ∀ a, R a b → R' a b) → PySem.W.EachIs R' as bs
  | [], [], _, _ => .nil
  | [], _ :: _, h, _ => nomatch h
  | _ :: _, [], h, _ => nomatch h
  | a :: as, b :: bs, h, k => by
    cases h with
    | cons h1 h2 => exact .cons (k b List.mem_cons_self a h1) (each_imp h2 fun b hb => k b (List.mem_cons_of_mem _ hb))
theorem sort_gen (hK : M.K = X.K) (hu : X.A.units + 65 < cLine) {xs : List D} {ws : List V} {us : List Value} {a : Addr} {Q : VK} {S : List D} (I : Inv X pins σ H s) (ra : H a = some (.lst ws)) (qa : VRs M ags (exs O ags W) H xs ws)
    (hc : datasOk xs = true ∧ srtOk xs = true ∧ deps xs ≤ 60 ∧ xs.length ≤ SZ) (r : Vals [V.ref a] us) (g : Gives M (.lst (sortD xs)) H Q O ags W S) : wpAny (model X.prog X.w) X.A (call (.builtin "sorted") us) (EP X pins σ Q) X.xe s := by
  obtain ⟨u, rfl, ru⟩ := vals1 r
  obtain rfl : u = Value.ref a := ru
  obtain ⟨its, rl, pl, hz⟩ := I.list (SqL.of (K := X.K) ra)
  obtain ⟨h1, h2, h3, h4⟩ := hc
  unfold srtOk at h2
  rw [Bool.and_eq_true, List.all_eq_true] at h2
  have e := each_of qa rl
  have er : PySem.W.EachIs (fun u b => ∃ as, Reads s.heap u (toR b) as) its xs := each_imp e fun b hb u ⟨x, rx, vx⟩ => by
    obtain ⟨as, q⟩ := Dp.reads I (toP b) x u (VR.dp b x vx (data_in h1 hb)).1 rx
    exact ⟨as, by rw [← toP_R]; exact q⟩
  refine PySem.W.sorted_data (enc := toR) pl.isList e er (fun d hd d' hd' => ?_) ?_ (by rw [← SZ_eq]; exact h4) (fun b hb => ?_) fun out hol eo => ?_
  · obtain ⟨b, hb, rfl⟩ := List.mem_map.mp hd
    obtain ⟨b', hb', rfl⟩ := List.mem_map.mp hd'
    exact List.all_eq_true.mp (h2.1 b hb) b' hb'
  · rcases Bool.or_eq_true_iff.mp h2.2 with h | h
    · refine .inl fun d hd => ?_
      obtain ⟨b, hb, rfl⟩ := List.mem_map.mp hd
      have := List.all_eq_true.mp h b hb
      match b, this with
      | .tup (x :: r), _ => exact ⟨_, _, rfl⟩
    · refine .inr fun d hd => ?_
      obtain ⟨b, hb, rfl⟩ := List.mem_map.mp hd
      have k := List.all_eq_true.mp h b hb
      have kd := data_in h1 hb
      cases b <;> first | (cases k; done) | (cases kd; done) | exact ⟨(fun z => nomatch z), fun xs z => nomatch z⟩
  · have := dep_in hb
    rw [← toP_R, depP]
    omega
  · have eq : PySem.W.dataLe false toR = fun a b => !ltD b a := rfl
    rw [eq] at eo
    obtain ⟨vs', rv', rd'⟩ := of_each eo
    obtain ⟨n, hn⟩ := sortedAll_at s.heap its out.toArray
    refine ⟨.ref _, upd H _ (.lst vs'), I.laid (t' := s.toks) (fun b o q => sortedAll_old q) (Nat.le_succ _) ⟨?_, out, n, rv', hn⟩, rfl, g.lst rd' _ (I.hok.fresh (Nat.le_succ _))⟩
    rw [rv'.length, hol, ← SZ_eq]
    exact h4
theorem op_bi (hh : X.A.handled = none) (hdg : PySem.W.nsIn X.K cStatics "sys.int_max_str_digits" = some none) (hK : M.K = X.K) (hc : X.calm = true) (hg : X.A.guards = some []) (hu : X.A.units + 65 < cLine) (b : BI) : CallR X (biV b) (rBI M b) := by
  intro pins s σ H vs us Q I r h
  obtain ⟨O, ags, W, S, ds, f, hd, hf, g⟩ := h
  have hZ := SZ_eq
  unfold biD at hf
  split at hf
  · -- repr
    rename_i x
    split at hf
    · rename_i hk
      cases hf
      obtain ⟨v, rfl, hv⟩ := hd.one
      obtain ⟨u, rfl, ru⟩ := vals1 r
      exact repr_any hg hu I hv.vr0 ru hk.1 hk.2.1 (by rw [← hZ]; exact hk.2.2) fun gd => g.flat rfl ⟨rfl, gd⟩
    · cases hf
  · cases hf
    obtain ⟨v, rfl, hv⟩ := hd.one
    obtain ⟨rfl, gd⟩ := hv.str
    exact call_len pins s σ H _ us Q I r ⟨_, _, rfl, ⟨by rw [str_len]; exact gd.len, rfl⟩, by rw [str_len]; exact g.flat rfl rfl⟩
  · cases hf
    obtain ⟨v, rfl, hv⟩ := hd.one
    obtain ⟨a, ws, rfl, ra, qa⟩ := hv.lst
    exact call_len pins s σ H _ us Q I r ⟨_, _, rfl, .inl ⟨ws, SqL.of ra, rfl⟩, by rw [qa.length]; exact g.flat rfl rfl⟩
  · cases hf
    obtain ⟨v, rfl, hv⟩ := hd.one
    obtain ⟨a, ws, rfl, ra, qa⟩ := hv.tup
    exact call_len pins s σ H _ us Q I r ⟨_, _, rfl, .inr ⟨ws, SqT.of ra, rfl⟩, by rw [qa.length]; exact g.flat rfl rfl⟩
  · cases hf
    obtain ⟨v, rfl, hv⟩ := hd.one
    obtain ⟨a, ws, rfl, ra, qa⟩ := hv.dct
    obtain ⟨u, rfl, ru⟩ := vals1 r
    cases ru
    rcases ra with ⟨kvs, hr, e1, e2, _⟩ | ⟨kvs, hr, e1, e2, _⟩
    · refine d_len I hr fun t s' I' => ⟨.int kvs.length, H, I', ⟨t, rfl⟩, ?_⟩
      have hl := qa.length
      rw [e2, List.length_map] at hl
      rw [hl]
      exact g.flat rfl rfl
    · obtain ⟨z, hd, ys, rel, dd⟩ := dt_rd I.hok hr
      have hl : kvs.length = ys.length := Paired.length rel
      refine call_len_dictH hd dd (by rw [← hl]; rw [sizeLine_eq] at z; omega) ?_
      rw [← hl]
      refine ⟨.int ((kvs.length : Nat) : Int), H, I.tok _, ⟨_, rfl⟩, ?_⟩
      have hl2 := qa.length
      rw [e2, List.length_map] at hl2
      rw [hl2]
      exact g.flat rfl rfl
  · cases hf
    obtain ⟨v, rfl, hv⟩ := hd.one
    obtain ⟨a, rfl, qa⟩ := hv.scr
    rw [hK] at qa
    exact call_len pins s σ H _ us Q I r ⟨_, _, rfl, .inl ⟨_, qa, rfl⟩, by rw [List.length_map]; exact g.flat rfl rfl⟩
  · cases hf
    obtain ⟨v, rfl, hv⟩ := hd.one
    cases hv.int
    exact call_int1 pins s σ H _ us Q I r (.inl ⟨_, rfl, g.flat rfl rfl⟩)
  · cases hf
    obtain ⟨v, rfl, hv⟩ := hd.one
    cases hv.bl
    exact call_int1 pins s σ H _ us Q I r (.inr ⟨_, rfl, g.flat rfl rfl⟩)
  · cases hf
    obtain ⟨v, w, rfl, hv, hw⟩ := hd.two
    cases hv.int; cases hw.int
    exact call_max2 hc pins s σ H _ us Q I r ⟨_, _, rfl, g.flat rfl rfl⟩
  · cases hf
    obtain ⟨v, w, rfl, hv, hw⟩ := hd.two
    cases hv.int; cases hw.int
    exact call_min2 hc pins s σ H _ us Q I r ⟨_, _, rfl, g.flat rfl rfl⟩
  · cases hf
    obtain ⟨v, rfl, hv⟩ := hd.one
    cases hv.int
    exact call_abs pins s σ H _ us Q I r ⟨_, rfl, g.flat rfl rfl⟩
  · split at hf
    · rename_i hk
      cases hf
      obtain ⟨v, rfl, hv⟩ := hd.one
      cases hv.int
      obtain ⟨e, gd⟩ := good_text _ hk
      refine call_str_big hh hdg pins s σ H _ us Q I r ⟨_, rfl, hk, ?_⟩
      have := g.flat (v := .str ⟨(decI _).toArray⟩) rfl ⟨rfl, gd⟩
      rw [← e] at this
      exact this
    · cases hf
  · cases hf
    obtain ⟨v, w, u, rfl, hv, hw, hu'⟩ := hd.three
    cases hv.int; cases hw.int; cases hu'.int
    exact call_min3Nu hc pins s σ H _ us Q I r ⟨_, _, _, _, rfl, nuMin3I _ _ _, g.flat rfl rfl⟩
  · split at hf
    · rename_i i l e
      cases hf
      obtain ⟨v, rfl, hv⟩ := hd.one
      obtain ⟨a, ws, rfl, ra, qa⟩ := hv.lst
      cases VRs.intsOf qa e
      refine cr_min hc pins s σ H _ us Q I r ⟨a, i :: l, rfl, SqL.of ra, by simp, fun m hm hle => ?_⟩
      obtain ⟨h1, h2, h3⟩ := foldl_min_le l i
      have em : m = l.foldl min i := by
        have a1 : m ≤ l.foldl min i := by
          rcases h3 with e | e
          · rw [e]; exact hle _ List.mem_cons_self
          · exact hle _ (List.mem_cons_of_mem _ e)
        have a2 : l.foldl min i ≤ m := by
          rcases List.mem_cons.mp hm with e | e
          · rw [e]; exact h1
          · exact h2 _ e
        omega
      rw [em]
      exact g.flat rfl rfl
    · split at hf
      · rename_i a l e
        cases hf
        obtain ⟨v, rfl, hv⟩ := hd.one
        obtain ⟨ad, ws, rfl, ra, qa⟩ := hv.lst
        obtain ⟨rfl, hg⟩ := qa.strsOf e
        have hb := MinS.best_fold ((a :: l).map fun x => (⟨x.toArray⟩ : Str)) l.length (by simp)
        refine MinS.cr_minS hc pins s σ H _ us Q I r ⟨ad, (a :: l).map fun x => ⟨x.toArray⟩, rfl, SqL.of (by rw [List.map_map]; exact ra), by simp, ?_⟩
        have el : ((a :: l).map fun x => (⟨x.toArray⟩ : Str)).length - 1 = l.length := by simp
        rw [el]
        have ef : ((((((a :: l).map fun x => (⟨x.toArray⟩ : Str)).take (l.length + 1)).drop 1).map fun x => x.cps.toList)) = l := by
          rw [List.take_of_length_le (by simp)]
          simp [List.map_map, Function.comp_def]
        rw [ef] at hb
        have h0 : (MinS.vAt ((a :: l).map fun x => (⟨x.toArray⟩ : Str)) 0).cps.toList = a := by simp [MinS.vAt]
        rw [h0] at hb
        generalize MinS.vAt ((a :: l).map fun x => (⟨x.toArray⟩ : Str)) _ = z at hb
        have hm : ∀ (l : List (List Nat)) (a : List Nat), l.foldl (fun m x => if x < m then x else m) a = a ∨ l.foldl (fun m x => if x < m then x else m) a ∈ l := by
          intro l
          induction l with
          | nil => intro a; exact .inl rfl
          | cons x r ih =>
            intro a
            rcases ih (if x < a then x else a) with h | h
            · rw [List.foldl_cons, h]
              split
              · exact .inr List.mem_cons_self
              · exact .inl rfl
            · exact .inr (List.mem_cons_of_mem _ h)
        have gm : Good (l.foldl (fun m x => if x < m then x else m) a) := by
          rcases hm l a with h | h
          · rw [h]; exact hg a List.mem_cons_self
          · exact hg _ (List.mem_cons_of_mem _ h)
        refine g.flat rfl ⟨?_, gm⟩
        rw [← hb]
      · cases hf
  · split at hf
    · rename_i i l e
      cases hf
      obtain ⟨v, rfl, hv⟩ := hd.one
      obtain ⟨a, ws, rfl, ra, qa⟩ := hv.lst
      cases VRs.intsOf qa e
      refine cr_max hc pins s σ H _ us Q I r ⟨a, i :: l, rfl, SqL.of ra, by simp, fun m hm hle => ?_⟩
      obtain ⟨h1, h2, h3⟩ := foldl_max_le l i
      have em : m = l.foldl max i := by
        have a1 : l.foldl max i ≤ m := by
          rcases h3 with e | e
          · rw [e]; exact hle _ List.mem_cons_self
          · exact hle _ (List.mem_cons_of_mem _ e)
        have a2 : m ≤ l.foldl max i := by
          rcases List.mem_cons.mp hm with e | e
          · rw [e]; exact h1
          · exact h2 _ e
        omega
      rw [em]
      exact g.flat rfl rfl
    · cases hf
  · obtain ⟨l, e, rfl⟩ := Option.map_eq_some_iff.mp hf
    obtain ⟨v, rfl, hv⟩ := hd.one
    obtain ⟨a, ws, rfl, ra, qa⟩ := hv.lst
    cases VRs.intsOf qa e
    exact cr_sum hc pins s σ H _ us Q I r ⟨a, l, rfl, SqL.of ra, g.flat rfl rfl⟩
  · obtain ⟨l, e, rfl⟩ := Option.map_eq_some_iff.mp hf
    obtain ⟨v, rfl, hv⟩ := hd.one
    obtain ⟨a, ws, rfl, ra, qa⟩ := hv.lst
    cases VRs.blsOf qa e
    exact cr_all hc pins s σ H _ us Q I r ⟨a, l, rfl, SqL.of ra, g.flat rfl rfl⟩
  · obtain ⟨l, e, rfl⟩ := Option.map_eq_some_iff.mp hf
    obtain ⟨v, rfl, hv⟩ := hd.one
    obtain ⟨a, ws, rfl, ra, qa⟩ := hv.lst
    cases VRs.blsOf qa e
    exact cr_any hc pins s σ H _ us Q I r ⟨a, l, rfl, SqL.of ra, g.flat rfl rfl⟩
  · rename_i xs
    obtain ⟨v, rfl, hv⟩ := hd.one
    obtain ⟨a, ws, rfl, ra, qa⟩ := hv.lst
    split at hf
    · rename_i l e
      cases hf
      cases VRs.intsOf qa e
      refine cr_sortedI pins s σ H _ us Q I r ⟨a, l, rfl, SqL.of ra, fun ns' p hp hs hn => ?_⟩
      rw [sortI_eq hp hs]
      have := g.lst (vs := (sortI l).map V.int) (VRs.ints _) p hn
      exact this
    · split at hf
      · rename_i l e
        split at hf
        · rename_i h64
          cases hf
          obtain ⟨e1, hgd⟩ := VRs.strsOf qa e
          subst e1
          refine cr_sortedS pins s σ H _ us Q I r ⟨a, l.map fun x => ⟨x.toArray⟩, rfl, SqL.of (by rw [List.map_map]; exact ra), by rw [List.length_map]; exact h64, fun ys p hp hs hn => ?_⟩
          have e2 := sortS_eq hp hs
          rw [List.map_map] at e2
          have e3 : (l.map ((fun x : Str => x.cps.toList) ∘ fun x => (⟨x.toArray⟩ : Str))) = l := by
            rw [show ((fun x : Str => x.cps.toList) ∘ fun x : List Nat => (⟨x.toArray⟩ : Str)) = id from funext fun x => by simp]
            simp
          rw [e3] at e2
          have e4 : ys.map V.str = (sortS l).map fun x => V.str ⟨x.toArray⟩ := by
            rw [← e2, List.map_map]
            exact List.map_congr_left fun x _ => by simp
          rw [e4]
          refine g.lst ?_ p hn
          have hmem : ∀ x ∈ sortS l, Good x := fun x hx => hgd x ((sortB_perm lexLtN l).mem_iff.mp hx)
          clear e2 e4 g hs
          generalize sortS l = L at hmem
          induction L with
          | nil => rfl
          | cons x L ih => exact ⟨_, _, rfl, ⟨rfl, hmem x (List.mem_cons_self ..)⟩, ih fun z hz => hmem z (List.mem_cons_of_mem _ hz)⟩
        · cases hf
      · split at hf
        · rename_i l e
          cases hf
          obtain ⟨k, hk, e1⟩ := VRs.prs qa e
          subst e1
          refine cr_sortedPO pins s σ H _ us Q I r ⟨a, ws, k, rfl, SqL.of ra, fun x hx => ?_, fun ys p hs hst hn => ?_⟩
          · obtain ⟨t, e, _, q⟩ := hk x hx
            exact ⟨t, e, q⟩
          · have hpm : ys.Perm ws := hst.perm
            have e2 : ys.map k = sortP (ws.map k) := by
              refine sortP_eq (hpm.map _) ?_
              rw [List.pairwise_map]
              exact hs.imp fun {a b} h => by rw [← ltPr_lexB]; exact h
            have rv : VRs M ags (exs O ags W) H ((sortP (ws.map k)).map fun p => .tup [.int p.1, .int p.2]) ys := by
              rw [← e2]
              have hk' : ∀ x ∈ ys, ∃ t, x = V.ref t ∧ ¬ exs O ags W t ∧ H t = some (.tup [.int (k x).1, .int (k x).2]) := fun x hx => hk x (hpm.mem_iff.mp hx)
              clear hs hst hpm e2 hn
              induction ys with
              | nil => rfl
              | cons x ys ih =>
                obtain ⟨t, rfl, nt, q⟩ := hk' x (List.mem_cons_self ..)
                exact ⟨_, _, rfl, ⟨t, _, rfl, nt, q, .int _, _, rfl, rfl, .int _, [], rfl, rfl, rfl⟩, ih fun z hz => hk' z (List.mem_cons_of_mem _ hz)⟩
            exact g.lst rv p hn
        · split at hf
          · rename_i hcd
            cases hf
            exact sort_gen hK hu I ra qa hcd r g
          · cases hf
  · cases hf
def rRp (M : Nm) : List V → Hp → VK → Prop := fun vs H Q => ∃ ags x v f, vs = [v] ∧ RelD M ags H x v ∧ biD .repr [x] = some f ∧ ∀ y, f = .str y → Good y → Q (.str ⟨y.toArray⟩) H
theorem op_rpr (hg : X.A.guards = some []) (hu : X.A.units + 65 < cLine) : CallR X (.builtin "repr") (rRp M) := by
  intro pins s σ H vs us Q I r h
  obtain ⟨ags, x, v, f, rfl, hv, hf, q⟩ := h
  obtain ⟨u, rfl, ru⟩ := vals1 r
  have hf : (if showOkd x = true ∧ dep x ≤ 60 ∧ (reprS x).length ≤ SZ then some (D.str (reprS x)) else none) = some f := hf
  split at hf
  · rename_i hk
    cases hf
    exact repr_any hg hu I hv ru hk.1 hk.2.1 (by rw [← SZ_eq]; exact hk.2.2) fun gd => q _ rfl gd
  · cases hf
end
end PV

/-! ## PV: enumerate(a text) -/
namespace PySem
open Sem (wp)
open Builtin Builtin.Str
theorem pv_enum_new {v : Value} {o : Obj} {H : Heap → Prop} (B : Begins v o H) :
    Meets (Builtin.«enumerate.__new__» ⟨[.type "enumerate", v], []⟩) (fun _ R s => H s.heap ∧
      R (.ok (.ret (.ref (s.heap.push o).objs.size))) { s with heap := (s.heap.push o).push { cls := .type "enumerate", data := .fields #[.none, .bool false, .ref s.heap.objs.size, rawInt 0, .none, .none] } }) :=
  .of_wp fun prog w A R s h => by
    obtain ⟨hp, g, d, tk, os⟩ := s; obtain ⟨h1, h⟩ := h
    have hsub := sub_enumerate
    have q1 : ∀ {A' : Around} {E : Value → Shared → Prop} {Q : Value → Shared → Prop}, Q (.ref hp.objs.size) ⟨hp.push o, g, d, tk, os⟩ → wpAny (model prog w) A' (pyIter v) Q E ⟨hp, g, d, tk, os⟩ :=
      fun q => B.iter prog w _ _ ⟨hp, g, d, tk, os⟩ _ h1 q
    wp_walk using q1
    refine wpAny_stack_any fun st => wpAny_pure ?_
    split
    · rename_i c _ _ _ _ _
      cases (c == Value.type "enumerate")
      · wp_walk using q1
        exact ⟨_, rfl, h⟩
      · wp_walk using q1
        exact ⟨_, rfl, h⟩
    · wp_walk using q1
      exact ⟨_, rfl, h⟩
section
variable {prog : Program} {w : World} {A : Around} {E : Value → Shared → Prop} {s : Shared}
theorem pv_enum_begins {v : Value} {o : Obj} {H : Heap → Prop} {Q : Value → Shared → Prop} (B : Begins v o H) (h1 : H s.heap)
    (h : ∀ h', IsEnum h' (s.heap.objs.size + 1) s.heap.objs.size 0 .none → h'.get? s.heap.objs.size = some o → h'.objs.size = s.heap.objs.size + 2 →
      (∀ b o, s.heap.get? b = some o → h'.get? b = some o) → Q (.ref (s.heap.objs.size + 1)) { s with heap := h' }) :
    wpAny (model prog w) A (call (.type "enumerate") [v]) Q E s := by
  refine callType_new F.called_enumerate (by decide) (F.typeCall_enumerate_1 _) (F.newCall_enumerate_1 _) (fun obj => F.args_object_init_2 obj _) F.entry_enumerate_new
    (pv_enum_new B) ⟨h1, ?_⟩
  have hz : (s.heap.push o).objs.size = s.heap.objs.size + 1 := Heap.size_push ..
  show _ ∧ _
  rw [hz]
  have he : IsEnum ((s.heap.push o).push { cls := .type "enumerate", data := .fields #[.none, .bool false, .ref s.heap.objs.size, rawInt 0, .none, .none] }) (s.heap.objs.size + 1) s.heap.objs.size 0 .none := by
    have := Heap.get?_push_size (s.heap.push o) (o := { cls := .type "enumerate", data := .fields #[.none, .bool false, .ref s.heap.objs.size, rawInt 0, .none, .none] }) rfl
    rw [hz] at this; exact this
  refine ⟨⟨_, he, rfl⟩, h _ he (Heap.get?_push_of_some _ (Heap.get?_push_size _ B.free)) (by rw [Heap.size_push, hz]) fun b o x => Heap.get?_push_of_some _ (Heap.get?_push_of_some _ x)⟩
theorem pv_enum_end {e it : Addr} {x : Str} {t : Tok} {j : Nat} {i : Int} {old : Value} {Q : Option Value → Shared → Prop} (hh : A.handled = none) (he : IsEnum s.heap e it i old) (hst : s.heap.IsStrIter it (strIterType x) x t j) (hx : x.cps[j]? = none)
    (hQ : ∀ h', Heap.ExtBut it s.heap h' → Q none { s with heap := h' }) : wpAny (model prog w) A (pyNext (.ref e)) Q E s := by
  have hT : s.TypeIs (.ref e) "enumerate" := ⟨_, he, rfl⟩
  unfold pyNext
  refine wpAny_bind (wpAny_attempt (wpAny_callSpecial?_slot (name := Str.ofString "__next__") hT F.slot_enumerate_next
    (wpAny_call_entry F.slot_enumerate_next hT F.entry_enumerate_next ?_ (F.args_enumerate_next_1 _))))
  show wpAny _ _ (field (.ref e) 2 >>= _) _ _ _
  refine wpAny_bind (wpAny_field he rfl (x := .ref it) rfl ?_)
  refine wpAny_bind ?_
  unfold strIterType at hst
  split at hst
  · refine wpAny_nextOf_ascii_end (show A.in1.handled = none from hh) hst hx fun h' x' he' hx' => ?_
    obtain ⟨o, ho, hc⟩ := hx'
    refine wpAny_bind (wpAny_isInstance (T := "StopIteration") (b := true) ⟨o, ho, hc⟩ isSubtype_stop ?_)
    exact wpAny_pure (hQ _ he')
  · refine wpAny_nextOf_wide_end (show A.in1.handled = none from hh) hst hx fun h' x' he' hx' => ?_
    obtain ⟨o, ho, hc⟩ := hx'
    refine wpAny_bind (wpAny_isInstance (T := "StopIteration") (b := true) ⟨o, ho, hc⟩ isSubtype_stop ?_)
    exact wpAny_pure (hQ _ he')
end
end PySem
namespace PV
open PySem PySem.Spec PyProof.Rows L2
def Ites (x : Str) : It :=
  ⟨fun i _ => i < x.cps.size, fun i H v H' => ∃ T c, v = .ref T ∧ H T = none ∧ H' = upd H T (.tup [.int (i : Nat), .str ⟨#[c]⟩]) ∧ x.cps[i]? = some c, fun i _ => x.cps.size ≤ i⟩
theorem turn_enumS {P : Program} {w : World} {K : PySem.W.Frag} {elts : List Expr} {kk : Nat} {tpos : Pos} (x : Str) (t : Tok) (e it : Addr) :
    Turn P w K (.Tuple elts kk tpos) (Ites x) [e, it] e (fun i h => (∃ old, IsEnum h e it ((i : Nat) : Int) old) ∧ h.IsStrIter it (strIterType x) x t i ∧ e ≠ it) where
  mem := by simp
  obj := fun i h st b hb => by
    obtain ⟨⟨old, he⟩, ⟨o, ho, hc, hd⟩, _⟩ := st
    have e' : b = e ∨ b = it := by simpa using hb
    rcases e' with z | z
    · rw [z]; exact ⟨_, he, fun v q => nomatch q⟩
    · rw [z]; exact ⟨o, ho, fun v q => by rw [hd] at q; cases q⟩
  keep := fun i h h' st k => let ⟨⟨old, he⟩, ⟨o, ho, r⟩, hne⟩ := st; ⟨⟨old, k e (by simp) _ he⟩, ⟨o, k it (by simp) o ho, r⟩, hne⟩
  item := by
    intro X hP hw hK hc i pins s σ H E I hf st hg
    subst hP hw hK
    obtain ⟨⟨old, he⟩, hit, hne⟩ := st
    have hel : e < s.heap.objs.size := Heap.lt_size he
    have hil : it < s.heap.objs.size := by obtain ⟨_, q, _⟩ := hit; exact Heap.lt_size q
    have D : Draws X.prog X.w X.A.in1 it [it] x.cps.size (fun i v => ∃ c u, x.cps[i]? = some c ∧ v = .str ⟨#[c]⟩ u) (fun i h => h.IsStrIter it (strIterType x) x t i) := Draws.text (A := X.A.in1) (show X.A.in1.handled = none from I.ok.hd hc) it x t
    refine wpAny_pyNext_enum_itemD D he hit hg hne (by simpa using hne) fun u h' tk hPu ho hit' hT hsz hk => ?_
    obtain ⟨c, u', hcx, rfl⟩ := hPu
    refine ⟨_, rfl, wpAny_letOwnedTupleGo_enum (s := { s with heap := h', toks := tk + 1 }) ho fun h'' he' sb => ?_⟩
    have hT2 : h''.get? s.heap.objs.size = some { cls := .type "tuple", data := .seq #[.int i tk, .str ⟨#[c]⟩ u'] } := (sb.2 _ (Nat.ne_of_gt hel)).trans hT
    have new : ObjOk X.prog X.w (upd H s.heap.objs.size (.tup [.int (i : Nat), .str ⟨#[c]⟩])) h'' s.heap.objs.size (.tup [.int (i : Nat), .str ⟨#[c]⟩]) :=
      ⟨by show 2 ≤ sizeLine; decide, [.int i tk, .str ⟨#[c]⟩ u'], .cons ⟨_, rfl⟩ (.cons ⟨_, rfl⟩ .nil), ⟨_, hT2, rfl, _, rfl⟩⟩
    have I1 : Inv X pins σ (upd H s.heap.objs.size (.tup [.int (i : Nat), .str ⟨#[c]⟩])) { s with heap := h'', toks := tk + 1 } :=
      I.turnedNew (ch := [e, it]) (fun b ob hb q => (sb.2 b (fun z => hb (by simp [z]))).trans (hk b ob (fun z => hb (by simp [z])) (fun z => hb (by simp [z])) q)) hf (Nat.le_refl _) new
    refine ⟨.ref s.heap.objs.size, _, I1, rfl, ⟨_, c, rfl, I.hok.fresh (Nat.le_refl _), rfl, hcx⟩, ⟨⟨.str ⟨#[c]⟩ u', ?_⟩, ?_, hne⟩, fun b hb => ?_⟩
    · have e1 : ((i + 1 : Nat) : Int) = (i : Int) + 1 := by omega
      rw [e1]; exact he'
    · obtain ⟨o, ho, r⟩ := hit'
      exact ⟨o, (sb.2 it (Ne.symm hne)).trans ho, r⟩
    · have hb' : b < s.heap.objs.size := by
        have e' : b = e ∨ b = it := by simpa using hb
        rcases e' with z | z
        · rw [z]; exact hel
        · rw [z]; exact hil
      rw [upd_ne (Nat.ne_of_lt hb')]
      exact (hf b hb).1
  done := by
    intro X hP hw hK hc i pins s σ H E I hf st hg
    subst hP hw hK
    obtain ⟨⟨old, he⟩, hit, hne⟩ := st
    obtain ⟨f0, f1, f2, f3, f4, f5⟩ := hf it (by simp)
    exact pv_enum_end (I.ok.hd hc) he hit (Array.getElem?_eq_none hg) fun h' eb => ⟨rfl, I.turned (t' := s.toks) (fun b o hb q => eb b o hb q) f0 f1 f3 f4 f5⟩
  self := fun A i s Q E st h => let ⟨⟨_, he⟩, _⟩ := st; wpAny_pyIter_enum he h
def iEnumS (ta : TA) : TI := fun σ H R => ta σ H fun vs H1 => ∃ x, vs = [.str x] ∧ R (Ites x) H1
def iEnumA (K : PySem.W.Frag) (ta : TA) : TI := fun σ H R => ta σ H fun vs H1 => (∃ a xs, vs = [.ref a] ∧ SqL K H1 a xs ∧ R (Ite K a) H1) ∨ ∃ x, vs = [.str x] ∧ R (Ites x) H1
theorem pi_enumA {X : Cx} {e : Expr} {ta : TA} {p pos tpos : Pos} {elts : List Expr} {kk : Nat} (hg : Gl X "enumerate") (hm : X.mg "enumerate" = none) (ha : PA X [e] ta) (hs : starEach [e] X.env = [(false, eval e X.env)] := by rfl) :
    PI X (.Tuple elts kk tpos) (.Call (.Name "enumerate" p) [e] [] pos) (iEnumA X.K ta) := by
  refine ⟨fun pins s σ H R I h => ?_⟩
  refine Call_ (ld_blt I hg hm boot_enumerate (PyProof.Rows.callWith_type1 (thn (ha.run pos pins s σ H _ I h) fun us s1 ⟨vs, H1, I1, r1, q1⟩ => ?_) hs rfl))
  rcases q1 with ⟨a, xs, ex, hq, q⟩ | ⟨x, ex, q⟩
  · subst ex
    cases r1 with
    | cons r rr =>
      cases rr
      cases r
      obtain ⟨its, rv, p', hz⟩ := I1.list hq
      refine call_enumerate_list p'.isList fun h' he hit hsz hk => wpAny_pyIter_enum he ?_
      have I2 : Inv X pins σ H1 { s1 with heap := h' } := I1.kept (t' := s1.toks) hk
      refine ⟨s1.heap.objs.size + 1, [s1.heap.objs.size + 1, s1.heap.objs.size], _, _, H1, rfl, I2, turn_enum a (s1.heap.objs.size + 1) s1.heap.objs.size, ⟨⟨.none, he⟩, hit, Nat.succ_ne_self _⟩, fun b hb => ?_, q⟩
      have e' : b = s1.heap.objs.size + 1 ∨ b = s1.heap.objs.size := by simpa using hb
      have hle : s1.heap.objs.size ≤ b := by
        rcases e' with z | z
        · rw [z]; exact Nat.le_add_right _ _
        · rw [z]; exact Nat.le_refl _
      exact I1.fpOk hle (I1.hok.fresh hle)
  · subst ex
    cases r1 with
    | cons r rr =>
      cases rr
      obtain ⟨t, rfl⟩ := r
      refine pv_enum_begins (begins_text x t) trivial fun h' he hit hsz hk => wpAny_pyIter_enum he ?_
      have I2 : Inv X pins σ H1 { s1 with heap := h' } := I1.kept (t' := s1.toks) hk
      refine ⟨s1.heap.objs.size + 1, [s1.heap.objs.size + 1, s1.heap.objs.size], _, _, H1, rfl, I2, turn_enumS x t (s1.heap.objs.size + 1) s1.heap.objs.size, ⟨⟨.none, he⟩, ⟨_, hit, rfl, rfl⟩, Nat.succ_ne_self _⟩, fun b hb => ?_, q⟩
      have e' : b = s1.heap.objs.size + 1 ∨ b = s1.heap.objs.size := by simpa using hb
      have hle : s1.heap.objs.size ≤ b := by
        rcases e' with z | z
        · rw [z]; exact Nat.le_add_right _ _
        · rw [z]; exact Nat.le_refl _
      exact I1.fpOk hle (I1.hok.fresh hle)
/-! ### a list or a text backwards -/
theorem rev_pick (z : Str) : ((Builtin.Str.strSliceIndices none none (-1) z.length).filterMap (z.cps[·]?)) = z.cps.toList.reverse := by
  have e := PyProof.Rows.step_rev_list z 0
  have e2 : (PySem.Txt.sliceBy z none none (-1, 0)).cps.toList = (Builtin.Str.strSliceIndices none none (-1) z.length).filterMap (z.cps[·]?) := by
    show ((⟨(_ : Array Nat)⟩ : Str)).cps.toList = _
    simp
    rfl
  rw [← e2, e]
  refine List.ext_getElem? fun i => ?_
  rw [List.getElem?_map]
  by_cases h : i < z.length
  · rw [List.getElem?_range h, List.getElem?_reverse (by simpa [Str.length] using h)]
    have hl : z.cps.toList.length = z.length := by simp [Str.length]
    rw [hl]
    show some (z.cps.getD (z.length - 1 - i) 0) = _
    rw [List.getElem?_eq_getElem (by omega)]
    congr 1
    have h2 : z.length - 1 - i < z.cps.size := by simp [Str.length] at h ⊢; omega
    simp [Array.getD, h2]
  · rw [List.getElem?_eq_none (by rw [List.length_range]; omega), List.getElem?_eq_none (by simp [Str.length] at h ⊢; omega)]
    rfl
def tRevA (K : PySem.W.Frag) (te : TE) : TE := fun σ H Q => te σ H fun x H1 => (∃ a xs, x = .ref a ∧ SqL K H1 a xs ∧ ∀ p, H1 p = none → Q (.ref p) (upd H1 p (.lst xs.reverse))) ∨ ∃ z : Str, x = .str z ∧ z.length ≤ sizeLine ∧ Q (.str ⟨z.cps.toList.reverse.toArray⟩) H1
theorem pe_revA {X : Cx} {e : Expr} {te : TE} {k : Nat} {p1 p2 p3 pos : Pos} (he : PE X e te) : PE X (.Subscript e (.Slice none none (some (.UnaryOp .USub (.Constant (.int 1) k p1) p2)) p3) pos) (tRevA X.K te) := by
  refine ⟨fun pins s σ H Q I h => ?_⟩
  refine Subscript_ (thn (he.run pins s σ H _ I h) fun v s1 ⟨x, H1, I1, r1, q1⟩ => ?_)
  have hst : PO X (some (.UnaryOp .USub (.Constant (.int 1) k p1) p2)) (tPart (tUn (rU fun i => .int (-i)) (tC (.int 1)))) := po_some (pe_un un_neg pe_int)
  refine wpAny_Slice (thn (po_none.run pins s1 σ H1 (fun o H2 => o = none ∧ H2 = H1) I1 ⟨rfl, rfl⟩) fun vl s2 ⟨l, H2, I2, pl, el, e2⟩ => ?_)
  subst el e2
  refine thn (po_none.run pins s2 σ H2 (fun o H3 => o = none ∧ H3 = H2) I2 ⟨rfl, rfl⟩) fun vu s3 ⟨u, H3, I3, pu, eu, e3⟩ => ?_
  subst eu e3
  refine thn (hst.run pins s3 σ H3 (fun o H4 => o = some (-1) ∧ H4 = H3) I3 ⟨1, rfl, -1, rfl, rfl, rfl⟩) fun vs s4 ⟨o, H4, I4, ps, eo, e4⟩ => ?_
  subst eo e4
  have I5 : Inv X pins σ H4 { s4 with heap := s4.heap.push { cls := .type "slice", data := .fields #[vl, vu, vs] } } := I4.kept (t' := s4.toks) fun b ob q => Heap.get?_push_of_some _ q
  rcases q1 with ⟨a, xs, ex, hx, q⟩ | ⟨z, ex, hz, q⟩
  · subst ex
    cases r1
    obtain ⟨its, r, ht, hz⟩ := I5.list hx
    have hlen := r.length
    show wpAny (model X.prog X.w) X.A (subscriptTail e (.Slice none none (some (.UnaryOp .USub (.Constant (.int 1) k p1) p2)) p3) (.ref a) (.ref s4.heap.objs.size)) (EP X pins σ Q) X.xe { s4 with heap := s4.heap.push { cls := .type "slice", data := .fields #[vl, vu, vs] } }
    refine tail_any (ops := [.ref a, .ref s4.heap.objs.size]) ht.isList.typeIs (PySem.slot_list_getitem.lookup) ?_ (by with_unfolding_all rfl)
    refine wpAny_getItem_list_slice ht.isList (Heap.IsSliceOf.new _ vl vu vs) pl pu ps (by decide) ?_ (by rw [List.size_toArray]; omega)
    rw [PySem.W.krv_pick]
    refine ⟨.ref _, _, I5.laid (t' := s4.toks) (o := .lst xs.reverse) (fun b ob q => Heap.get?_push_of_some _ q) (Nat.le_refl _) ?_, rfl, q _ (I5.hok.fresh (Nat.le_refl _))⟩
    exact ⟨by rw [List.length_reverse]; exact hz, _, 0, r.reverse, Heap.get?_push_size _ rfl⟩
  · subst ex
    obtain ⟨t, rfl⟩ := r1
    obtain ⟨l', rfl, hl'⟩ := IsPart.raw pl
    obtain ⟨u', rfl, hu'⟩ := IsPart.raw pu
    obtain ⟨s', rfl, hs'⟩ := IsPart.raw ps
    show wpAny (model X.prog X.w) X.A (subscriptTail e (.Slice none none (some (.UnaryOp .USub (.Constant (.int 1) k p1) p2)) p3) (.str z t) (.ref s4.heap.objs.size)) (EP X pins σ Q) X.xe { s4 with heap := s4.heap.push { cls := .type "slice", data := .fields #[partValue l', partValue u', partValue s'] } }
    refine tail_any (ops := [.str z t, .ref s4.heap.objs.size]) (typeIs_str _ _ _) (F.slot_str_getitem.lookup) ?_ (by with_unfolding_all rfl)
    refine wpAny_getItem_str_slice (l := l') (u := u') (st := s') ⟨_, Heap.get?_push_size _ rfl, rfl, rfl⟩ (by rw [hs']; rfl) ?_
    have hp : PySem.slicePicked z l' u' s' = Builtin.Str.strSliceIndices none none (-1) z.length := by
      show Builtin.Str.strSliceIndices (l'.map (·.1)) (u'.map (·.1)) ((s'.map (·.1)).getD 1) z.length = _
      rw [hl', hu', hs']; rfl
    have hm : PySem.sliceMade z t l' u' s' = Made.str ⟨z.cps.toList.reverse.toArray⟩ := by
      unfold PySem.sliceMade
      rw [hp, rev_pick, hs']
      rfl
    rw [hm]
    exact ⟨by simpa [Str.length] using hz, .str _, H4, I5.tok _, ⟨_, rfl⟩, q⟩
end PV

/-! ## PV: defs and their calls -/
namespace PV
open PySem PySem.Spec PyProof.Rows L2

/-- what a def keeps, where no repr is under way -/
structure FnG (P : Program) (w : World) (K : PySem.W.Frag) (mg : Str → Option Value) (base : Heap) (k : Nat) (f : Addr) (fd : FuncData) (ps : List Str) (sp : Sp) : Prop where
  len : ∀ vs H Q E, sp vs H Q E → vs.length = ps.length
  run : ∀ (A : Around) (outer : List PySem.Env) (s : Shared) (H : Hp) (args : Args) (us : List Value) (vs : List V) (Q : VK) (E : XK), Room k A → A.guards = some [] → Env0 P w K mg base A outer s H →
    BindsTo s fd args (ps.zip us) → Vals vs us → sp vs H Q E → codeAny (model P w) A (.call (.ref f) args) (CR (L2.CX P w) outer P w H s Q E) s
theorem FnG.mono {P : Program} {w : World} {K : PySem.W.Frag} {mg : Str → Option Value} {base : Heap} {j k : Nat} {f : Addr} {fd : FuncData} {ps : List Str} {sp : Sp} (F : FnG P w K mg base j f fd ps sp) (h : j ≤ k) : FnG P w K mg base k f fd ps sp :=
  ⟨F.len, fun A o s H args us vs Q E hr => F.run A o s H args us vs Q E (hr.mono h)⟩

/-- a rule for the values of a call -/
def CallK (X : Cx) (f : Addr) (ks : List Str) (r : List V → List V → L2.St → Hp → VK → Prop) : Prop :=
  ∀ (pins : List (Addr × Obj)) (s : Shared) (σ : L2.St) (H : Hp) (vs zs : List V) (us ws : List Value) (Q : VK), Inv X pins σ H s → Vals vs us → Vals zs ws → r vs zs σ H Q →
    wpAny (model X.prog X.w) X.A (call (.ref f) us (ks.zip ws)) (EP X pins σ Q) X.xe s
section
variable {X : Cx} {k : Nat} {f : Addr} {fd : FuncData} {ps ks : List Str} {sp : Sp} {Wx : WX} {x : Str}
theorem run_G {g : List Value → List Value → List Value} {gV : List V → List V → List V} (F : FnG X.prog X.w X.K X.mg X.base k f fd ps sp) (hr : Room k X.A) (hg : X.A.guards = some []) (hb : KBinds X.K fd ps ks g gV) (tk : Takes X Wx) :
    CallK X f ks fun vs zs σ H Q => ∃ E : XK, (∀ cls d H', E cls d H' → Wx cls d σ H') ∧ sp (gV vs zs) H Q E := by
  intro pins s σ H vs zs us ws Q I r rz ⟨E, hE, h⟩
  have r2 := hb.rel r rz
  have hl : (g us ws).length = ps.length := r2.length.symm.trans (F.len _ _ _ _ h)
  have main := F.run X.A X.stack s H ⟨us, ks.zip ws⟩ (g us ws) (gV vs zs) Q E hr hg I.env0 (hb.to s us ws I.kIn hl) r2 h
  refine wpAny_call (codeAny_mono main fun o s' hq => ?_)
  match o, hq with
  | .error e, hq => exact tk e s' (XE.of_call I hE hq)
  | .ok (.ret u), hq => exact I.after hq
  | .ok .next, hq => exact False.elim hq
  | .ok .brk, hq => exact False.elim hq
  | .ok .cont, hq => exact False.elim hq
end

/-! ### a def by its body -/
theorem cells_kind {sc : Scope} {ps : List Str} {us : List Value} {n : Nat} (h : ∀ x ∈ ps, sc.names.lookup x = some .local ∨ sc.names.lookup x = some .cell) :
    ∀ y ∈ ps.zip us, sc.names.lookup y.1 = some .local ∨ (sc.names.lookup y.1 = some .cell ∧ ((cellsFrom n sc.names []).lookup y.1).isSome = true) := by
  rintro ⟨nm, v⟩ hy
  rcases h nm (List.of_mem_zip hy).1 with q | q
  · exact .inl q
  · exact .inr ⟨q, PySem.W.cellsFrom_some _ _ _ (.inl q)⟩
theorem fn_G {P : Program} {w : World} {K : PySem.W.Frag} {mg : Str → Option Value} {base : Heap} {x qual : Str} {st : Stmt} {f : Addr} {fd : FuncData} {N ps : List Str} {k : Nat} {sp : Sp} (F : Fun K x qual st f fd) (S : FnScope N ps (defScope st))
    (len : ∀ vs H Q E, sp vs H Q E → vs.length = ps.length)
    (hbody : ∀ (cdv : Value) (A : Around) (outer : List PySem.Env) (s : Shared) (H : Hp) (vs : List V) (Q : VK) (E : XK), Room k (A.deeper (envOfC qual (defScope st) s.heap.objs.size f cdv)) → A.guards = some [] → sp vs H Q E →
      ∃ t, PSs (cxOf (L2.CX P w) P w K mg base N qual (defScope st) f cdv A outer s H E) (defBody st) t ∧ t { nx := fun _ H' => Q .non H', rt := Q } (start N vs) H) : FnG P w K mg base (k + 1) f fd ps sp := by
  obtain ⟨oc, od, kV, doc, pm, an, cdv, ct, osl, rfl, lk, hcd⟩ := F.ex
  refine ⟨len, fun A outer s H args us vs Q E hr hg e0 hb r hsp => ?_⟩
  have KX : K.In s.heap := e0.mod.kin.keeps fun b o e => (e0.bs b o e).1
  have lim : s.heap.NoLimit := e0.mod.nolimit.keeps fun b o e => (e0.bs b o e).1
  refine codeAny_call_function hr.depth (KX _ _ lk) rfl S.co S.gen rfl (PySem.W.codeRec_of KX hcd) (hb _ _ _ _ ?_)
  refine wpAny_newFunctionEnv_cells S.kind (cells_kind S.par) fun env he s1 inC => ?_
  subst he
  refine ⟨lim.keeps inC.toInCall.keep, codeAny_func ?_⟩
  obtain ⟨t, ht, hq⟩ := hbody cdv A outer s H vs Q E (hr.deeper _) hg hsp
  have I := inv_start (CX := L2.CX P w) (E := E) S hr.hd e0 (len _ _ _ _ hsp) r inC
  refine wpAny_mono (ht.run [] s1 (start N vs) H _ I hq) (fun fl s' hs => ?_) fun _ _ z => z
  match fl, hs with
  | .ret u, ⟨v, σ', H', J, rv, q⟩ => exact ⟨v, H', J.os, J.bare, J.base, J.hok, rv, q⟩
  | .next, ⟨σ', H', J, q⟩ => exact ⟨.non, H', J.os, J.bare, J.base, J.hok, rfl, q⟩
  | .brk, ⟨_, _, _, q⟩ => exact False.elim q
  | .cont, ⟨_, _, _, q⟩ => exact False.elim q

/-! ### the promise of a def: its evaluator's run -/
/-- what is wanted of a call -/
def Wish (M : Nm) (O : Adr) (ags : List Addr) (H : Hp) (Q : VK) (E : XK) (r : R D) : Prop :=
  match r with
  | .ok d S' => ∀ v ags' H', Ext ags H ags' H' → SR M O ags' (fun _ => none) H' S' → VR M ags' (exs O ags' fun _ => none) H' d v → Q v H'
  | .exc e S' => ∀ ags' H' cls dx, Ext ags H ags' H' → SR M O ags' (fun _ => none) H' S' → XR M ags' (exs O ags' fun _ => none) H' e cls dx → E cls dx H'
  | .stuck => False
def spD (M : Nm) (n : Nat) (Φ : List D → List D → R D) : Sp := fun vs H Q E => vs.length = n ∧ ∃ O ags S ds, SR M O ags (fun _ => none) H S ∧ VRs M ags (exs O ags fun _ => none) H ds vs ∧ Wish M O ags H Q E (Φ ds S)
/-- the values of a call by keywords, put in order -/
def gP (np nk : Nat) (perm : List Nat) {α : Type} (d : α) (us ws : List α) : List α := if us.length = np ∧ ws.length = nk then perm.map fun j => (us ++ ws).getD j d else []
/-- how a def is called here: how many plain arguments, the keywords, the order -/
structure Kw where
  np : Nat
  ks : List Str
  perm : List Nat
  deriving DecidableEq
structure FnRule (X : Cx) (M : Nm) (x : Str) (n : Nat) (kws : List Kw) (Φ : List D → List D → R D) : Prop where
  ex : ∃ (f : Addr) (fd : FuncData) (ps : List Str) (k : Nat), FnG X.prog X.w X.K X.mg X.base k f fd ps (spD M n Φ) ∧ ps.length = n ∧ Room k X.A ∧ X.mg x = some (.ref f) ∧ PySem.W.keepIn X.K (.ref f) = true ∧
    Binds X.K fd ps [] ∧ ∀ q ∈ kws, KBinds X.K fd ps q.ks (gP q.np q.ks.length q.perm Value.none) (gP q.np q.ks.length q.perm V.non)
section
variable {X : Cx} {M : Nm} {Wx : WX} {x : Str} {n : Nat} {kws : List Kw} {Φ : List D → List D → R D}
theorem vals_gP {np nk : Nat} {perm : List Nat} {vs zs : List V} {us ws : List Value} (r : Vals vs us) (rz : Vals zs ws) : Vals (gP np nk perm V.non vs zs) (gP np nk perm Value.none us ws) := by
  unfold gP
  rw [r.length, rz.length]
  split
  · have ra := r.append rz
    have get : ∀ j, RelV ((vs ++ zs).getD j .non) ((us ++ ws).getD j .none) := fun j => by
      cases e : (vs ++ zs)[j]? with
      | none =>
        have e2 := ra.none_of e
        simp only [List.getD_eq_getElem?_getD, e, e2]
        rfl
      | some v =>
        obtain ⟨u, e2, rv⟩ := ra.get e
        simp only [List.getD_eq_getElem?_getD, e, e2]
        exact rv
    generalize perm = l
    induction l with
    | nil => exact .nil
    | cons j l ih => exact .cons (get j) ih
  · exact .nil
/-- a def of the text, called: the reading -/
def rCall (M : Nm) (Wx : WX) (n : Nat) (Φ : List D → List D → R D) : List V → L2.St → Hp → VK → Prop := fun vs σ H Q => vs.length = n ∧ ∃ O ags W S ds, SR M O ags W H S ∧ VRs M ags (exs O ags W) H ds vs ∧
  Pst M O W Wx σ ags H (Φ ds S) fun d S' ags' H' => ∀ v, VR M ags' (exs O ags' W) H' d v → Q v H'
theorem exs_W {O : Adr} {ags : List Addr} {W : Nat → Option Addr} : exs (fun a => O a ∨ ∃ i, W i = some a) ags (fun _ => none) = exs O ags W := by
  funext a
  refine propext ⟨?_, ?_⟩
  · rintro ((z | z) | z | ⟨_, z⟩)
    · exact .inl z
    · exact .inr (.inr z)
    · exact .inr (.inl z)
    · cases z
  · rintro (z | z | z)
    · exact .inl (.inl z)
    · exact .inr (.inl z)
    · exact .inl (.inr z)
theorem SR.toO {O : Adr} {ags : List Addr} {W : Nat → Option Addr} {H : Hp} {S : List D} (r : SR M O ags W H S) : SR M (fun a => O a ∨ ∃ i, W i = some a) ags (fun _ => none) H S := by
  refine ⟨r.len, r.nd, ?_, fun a ha => ?_, fun _ _ z => absurd z (by simp), fun a z => ?_, fun _ _ z => absurd z (by simp), fun a z => z.elim (r.oo a) fun ⟨i, q⟩ => r.wo i a q, r.fl⟩
  · rw [exs_W]; exact r.at_
  · rintro (z | ⟨i, z⟩)
    · exact r.ap a ha z
    · exact (r.wn i a z).2.1 ha
  · rcases z with z | ⟨i, z⟩
    · exact r.on a z
    · exact (r.wn i a z).2.2
theorem SR.ofO {O : Adr} {ags ags' : List Addr} {W : Nat → Option Addr} {H H' : Hp} {S S' : List D} (r : SR M O ags W H S) (e : Ext ags H ags' H') (r' : SR M (fun a => O a ∨ ∃ i, W i = some a) ags' (fun _ => none) H' S') : SR M O ags' W H' S' := by
  refine ⟨r'.len, r'.nd, ?_, fun a ha z => r'.ap a ha (.inl z), fun i a z => ⟨(r.wn i a z).1, fun ha => ?_, r'.on a (.inr ⟨i, z⟩)⟩, fun a z => r'.on a (.inl z), fun i a z => r'.oo a (.inr ⟨i, z⟩), fun a z => r'.oo a (.inl z), r'.fl⟩
  · have := r'.at_
    rw [exs_W] at this
    exact this
  · rcases e.new a ha with q | q
    · exact (r.wn i a z).2.1 q
    · exact (r.wn i a z).2.2 q
theorem binds_K0 {K : PySem.W.Frag} {fd : FuncData} {ps : List Str} (h : Binds K fd ps []) : KBinds K fd ps [] (fun us _ => us) (fun vs _ => vs) := by
  refine ⟨fun s us ws hk hl => ?_, fun r _ => r⟩
  have := h s us hk (by rw [List.append_nil]; exact hl)
  rw [List.append_nil] at this
  exact this
theorem callG (F : FnRule X M x n kws Φ) (hg : X.A.guards = some []) (tk : Takes X Wx) : ∃ f, X.mg x = some (.ref f) ∧ PySem.W.keepIn X.K (.ref f) = true ∧
    (CallK X f [] fun vs _ σ H Q => rCall M Wx n Φ vs σ H Q) ∧ ∀ q ∈ kws, CallK X f q.ks fun vs zs σ H Q => rCall M Wx n Φ (gP q.np q.ks.length q.perm V.non vs zs) σ H Q := by
  obtain ⟨f, fd, ps, k, G, hn, hr, hm, hk, b0, hb⟩ := F.ex
  have main : ∀ {ks : List Str} {g : List Value → List Value → List Value} {gV : List V → List V → List V}, KBinds X.K fd ps ks g gV → CallK X f ks fun vs zs σ H Q => rCall M Wx n Φ (gV vs zs) σ H Q := by
    intro ks g gV kb pins s σ H vs zs us ws Q I r rz ⟨hl, O, ags, W, S, ds, sr, hv, h⟩
    refine run_G G hr hg kb tk pins s σ H vs zs us ws Q I r rz ⟨fun cls dx H' => Wx cls dx σ H', fun _ _ _ z => z, hl, fun a => O a ∨ ∃ i, W i = some a, ags, S, ds, sr.toO, by rw [exs_W]; exact hv, ?_⟩
    cases e : Φ ds S with
    | ok d S' =>
      rw [e] at h
      exact fun v ags' H' e1 r1 v1 => h ags' H' e1 (sr.ofO e1 r1) v (by rw [exs_W] at v1; exact v1)
    | exc d S' =>
      rw [e] at h
      exact fun ags' H' cls dx e1 r1 x1 => h ags' H' cls dx e1 (sr.ofO e1 r1) (by rw [exs_W] at x1; exact x1)
    | stuck => rw [e] at h; exact h
  exact ⟨f, hm, hk, main (binds_K0 b0), fun q hq => main (hb q hq)⟩
end
end PV

/-! ## PV: a Core expression against its tree -/
namespace PV
open PySem PySem.Spec PyProof.Rows L2

/-! ### matching -/
structure Sx where
  N : List Str
  sc : Scope
  raw : Option Scope
  FN : List (Str × Nat × List Kw)
  GN : List Str
  FV : List Str := []
  CN : List Str := []
def visB (sc : Scope) (x : Str) : Bool := match sc.names.lookup x with | some .local | some .cell | some .free => true | _ => false
def nmOk (x : Str) : Bool := x != "__debug__" && x != "__classdict__" && x != "__name__"
def glB (sc : Scope) (x : Str) : Bool := sc.names.lookup x == some .globalImplicit
def goodB (x : List Nat) : Bool := decide (x.length ≤ 16777216) && x.all fun c => decide (c < 1114112)
def litB : D → Const → Bool
  | .non, .none => true
  | .bl b, .bool c => b == c
  | .int i, .int j => i == j
  | .str x, .str y => y == ⟨x.toArray⟩ && goodB x
  | _, _ => false
def notSet : Expr → Bool
  | .Set .. => false
  | _ => true
def notStar : Expr → Bool
  | .Starred .. => false
  | _ => true
def notSlice : Expr → Bool
  | .Slice .. => false
  | _ => true
def baseB : Expr → Bool
  | .Call .. => false
  | _ => true
def biN : BI → Str
  | .len => "len" | .int => "int" | .max => "max" | .min => "min" | .abs => "abs" | .repr => "repr" | .sorted => "sorted" | .str => "str" | .sum => "sum" | .all => "all" | .any => "any"
def tyN : Ty → Str
  | .int => "int" | .bool => "bool" | .str => "str" | .lst => "list" | .tup => "tuple" | .dct => "dict" | .cls _ => ""
def mtN : MT → Str
  | .join => "join" | .bitlen => "bit_length" | .get => "get" | .upper => "upper" | .index => "index"
/-- the value is no thing that this frame alone may write -/
def cap : Xp → Bool
  | .bvar _ => false
  | .rd _ => false
  | .ife _ a b => cap a && cap b
  | .one a => cap a
  | .and_ _ b | .or_ _ b => cap b
  | _ => true
def capEs : Xps → Bool
  | .nil => true
  | .cons e r => cap e && capEs r
/-- the value is new, if it is a list -/
def frsh : Xp → Bool
  | .rd _ => false
  | .var _ | .bvar _ | .gv _ | .sub _ _ | .call _ _ | .callk _ _ _ _ | .cfv _ _ _ | .xval _ | .dgt _ _ _ => false
  | .ife _ a b => frsh a && frsh b
  | .one a => frsh a
  | .and_ _ _ | .or_ _ _ | .nt _ => false
  | _ => true
/-- the value stands while other things are evaluated -/
def nrd : Xp → Bool
  | .rd _ => false
  | .ife _ a b => nrd a && nrd b
  | .one a => nrd a
  | .and_ _ b | .or_ _ b => nrd b
  | _ => true
/-- all but the last one -/
def nrdEs : Xps → Bool
  | .nil => true
  | .cons _ .nil => true
  | .cons e r => nrd e && nrdEs r
def okMo : Mo → Xp → Bool
  | .now, _ => true
  | .bor, c => nrd c
  | .cap, c => cap c
  | .frs, c => frsh c
def lenEs : Xps → Nat
  | .nil => 0
  | .cons _ r => lenEs r + 1
/-- the targets' slots -/
def tgS : Tg → List Nat
  | .nm i => [i]
  | .tp2 a b => tgS a ++ tgS b
  | .tp3 a b c => tgS a ++ tgS b ++ tgS c
def Sx.fnB (z : Sx) (x : Str) : Bool := match z.raw with | none => true | some sc => sc.names.lookup x == some .cell
def locB (z : Sx) (x : Str) : Bool := (z.sc.names.lookup x == some .local) || (z.sc.names.lookup x == some .cell && z.fnB x)
def mT (z : Sx) : Tg → Expr → Bool
  | .nm i, .Name x _ => z.N[i]? == some x && locB z x && nmOk x
  | .tp2 a b, .Tuple [x, y] _ _ => mT z a x && mT z b y && notStar x && notStar y
  | .tp3 a b c, .Tuple [x, y, w] _ _ => mT z a x && mT z b y && mT z c w && notStar x && notStar y && notStar w
  | _, _ => false
def isTup : Expr → Bool
  | .Tuple .. => true
  | _ => false
def blkB (N : List Str) (sc scope : Scope) (own : List Nat) : Bool :=
  scope.kind == .function && (scope.names.all fun y => scope.names.lookup y.1 == some y.2) && (own.all fun i => (N[i]?).isSome) &&
    (scope.names.all fun y => !(y.2 == .free) || (sc.names.lookup y.1 == some .cell || sc.names.lookup y.1 == some .free)) &&
    (scope.names.all fun y => !(y.2 == .local || y.2 == .cell) || (own.any fun i => N[i]? == some y.1) || !N.contains y.1)
def tyB : Ty → Bool
  | .cls _ => false
  | _ => true
def mtB : MT → List Expr → Bool
  | .join, xs => !xs.isEmpty
  | .bitlen, xs => xs.isEmpty
  | .index, xs => xs.length == 1
  | _, _ => false
def nameO : Expr → Option Str
  | .Name y _ => some y
  | _ => none
/-- zip(a, b) -/
def zipO : Expr → Option (Str × Expr × Expr)
  | .Call (.Name zn _) [ea, eb] [] _ => some (zn, ea, eb)
  | _ => none
/-- a callee that is a value -/
def calB : Expr → Bool
  | .Name .. => true
  | .Subscript .. => true
  | _ => false
/-- the text's functions that are values stand first among those that are called, with these numbers of arguments -/
def fvB (z : Sx) (ar : List Nat) : Bool := (List.range z.FV.length).all fun k => match z.FN[k]? with | some (x, n, _) => z.FV[k]? == some x && ar[k]? == some n | none => false
mutual
def mE (z : Sx) : Xp → Expr → Bool
  | .nev, _ => true
  | .var i, .Name x _ => z.N[i]? == some x && visB z.sc x && nmOk x
  | .bvar i, .Name x _ => z.N[i]? == some x && visB z.sc x && nmOk x
  | .lit d, .Constant c _ _ => litB d c
  | .gv n, .Name x _ => z.GN[n]? == some x && glB z.sc x && nmOk x
  | .bin o a b, .BinOp l op r _ => nrd a && op == opP o && mE z a l && mE z b r
  | .neg a, .UnaryOp .USub e _ => mE z a e
  | .nt a, .UnaryOp .Not e _ => mE z a e
  | .and_ a b, .BoolOp .And (x :: y :: r) p => mE z a x && mE z b (.BoolOp .And (y :: r) p)
  | .or_ a b, .BoolOp .Or (x :: y :: r) p => mE z a x && mE z b (.BoolOp .Or (y :: r) p)
  | .one a, .BoolOp _ [x] _ => mE z a x
  | .ife c a b, .IfExp t x y _ => mE z c t && mE z a x && mE z b y
  | .cmp o a b, .Compare l [op] [r] _ => nrd a && op == copP o && notSet r && mE z a l && mE z b r
  | .chn o p a b c, .Compare l [op, op2] [r, r2] _ => nrd a && nrd b && op == copP o && op2 == copP p && notSet r2 && mE z a l && mE z b r && mE z c r2
  | .tup es, .Tuple xs _ _ => mEs z es xs && capEs es
  | .lst es, .List xs _ => mEs z es xs && capEs es
  | .sub a i, .Subscript v s _ => nrd a && notSlice s && mE z a v && mE z i s
  | .sli a lo hi, .Subscript v (.Slice l h none _) _ => nrd a && mE z a v && mO z lo l && mO z hi h
  | .call f es, .Call (.Name x _) xs [] _ => (match z.FN[f]? with | some (y, n, _) => y == x && lenEs es == n | none => false) && glB z.sc x && nmOk x && mEs z es xs && capEs es
  | .callk f es ks perm, .Call (.Name x _) xs kws _ => (match z.FN[f]? with | some (y, n, q) => y == x && perm.length == n && q.contains ⟨lenEs es, kws.filterMap (·.arg), perm⟩ | none => false) && glB z.sc x && nmOk x && mEs z es xs && capEs es &&
      mKs z ks kws && capEs ks
  | .bi b es, .Call (.Name x _) xs [] _ => x == biN b && glB z.sc x && mEs z es xs && nrdEs es
  | .isi a t, .Call (.Name x _) [e, .Name y _] [] _ => x == "isinstance" && y == tyN t && glB z.sc x && glB z.sc y && mE z a e && notStar e && tyB t
  | .mt m a es, .Call (.Attribute o name ap) xs [] p => nrd a && nrdEs es && name == mtN m && baseB o && ap.endLine == p.line && decide (xs.length < 28) && mtB m xs && mE z a o && mEs z es xs
  | .lc e own t it c, .ListComp x [⟨tg, iter, ifs, n⟩] scope _ => n == 0 && blkB z.N z.sc scope own && notSet iter && mI z it tg iter && (tgS t).all own.contains && mT { z with sc := relS scope z.sc, raw := some scope } t tg &&
      mC { z with sc := relS scope z.sc, raw := some scope } c ifs && mE { z with sc := relS scope z.sc, raw := some scope } e x && cap e
  | .lcR e own t a c, .ListComp x [⟨tg, iter, ifs, n⟩] scope _ => n == 0 && blkB z.N z.sc scope own && notSet iter && (mE z a iter && cap a) && (tgS t).all own.contains && mT { z with sc := relS scope z.sc, raw := some scope } t tg &&
      mC { z with sc := relS scope z.sc, raw := some scope } c ifs && mE { z with sc := relS scope z.sc, raw := some scope } e x && cap e
  | .lcZ e own t ab c, .ListComp x [⟨tg, iter, ifs, n⟩] scope _ => n == 0 && blkB z.N z.sc scope own && (match zipO iter with | some (zn, ea, eb) => zn == "zip" && glB z.sc zn && mEs z ab [ea, eb] | none => false) && isTup tg && capEs ab && (tgS t).all own.contains && mT { z with sc := relS scope z.sc, raw := some scope } t tg &&
      mC { z with sc := relS scope z.sc, raw := some scope } c ifs && mE { z with sc := relS scope z.sc, raw := some scope } e x && cap e
  | .lcD e own t i c, .ListComp x [⟨tg, iter, ifs, n⟩] scope _ => n == 0 && blkB z.N z.sc scope own && (match nameO iter with | some y => z.N[i]? == some y && visB z.sc y && nmOk y | none => false) && (tgS t).all own.contains && mT { z with sc := relS scope z.sc, raw := some scope } t tg &&
      mC { z with sc := relS scope z.sc, raw := some scope } c ifs && mE { z with sc := relS scope z.sc, raw := some scope } e x && cap e
  | .lrg (.cons a .nil), .Call (.Name x _) [.Call (.Name y _) [e] [] _] [] _ => x == "list" && y == "range" && glB z.sc x && glB z.sc y && mE z a e && notStar e
  | .lrg (.cons a (.cons b .nil)), .Call (.Name x _) [.Call (.Name y _) [e, f] [] _] [] _ => x == "list" && y == "range" && glB z.sc x && glB z.sc y && (mE z a e && notStar e && nrd a) && (mE z b f && notStar f)
  | .dgt a k v, .Call (.Attribute o name ap) [e, f] [] p => name == "get" && nrd a && cap k && baseB o && ap.endLine == p.line && mE z a o && (mE z k e && notStar e) && (mE z v f && notStar f)
  | .rev a, .Subscript v (.Slice none none (some (.UnaryOp .USub (.Constant (.int 1) _ _) _)) _) _ => mE z a v
  | .dct0, .Dict [] [] _ => true
  | .dlit x d, .Dict [some (.Constant (.str y) _ _)] [.Constant c _ _] _ => y == ⟨x.toArray⟩ && goodB x && litB d c
  | .pub e, x => mE z e x && frsh e
  | .rd e, x => mE z e x && nrd e
  | .dsp es, .Dict keys vals _ => mD z es keys vals && capEs es && !keys.isEmpty && decide (keys.length ≤ 15) && keys.all (·.isSome) && keys.length == vals.length
  | .dspT k v, .Dict [some kx] [vx] _ => mE z k kx && mE z v vx && cap k && cap v
  | .dctT, .Dict [] [] _ => true
  | .cmpX o a b, .Compare l [op] [r] _ => nrd a && nrd b && op == copP o && notSet r && mE z a l && mE z b r
  | .rpr a, .Call (.Name x _) [e] [] _ => x == "repr" && glB z.sc x && notStar e && mE z a e
  | .lstI a, .Call (.Name x _) [e] [] _ => x == "list" && glB z.sc x && notStar e && mE z a e
  | .tupI a, .Call (.Name x _) [e] [] _ => x == "tuple" && glB z.sc x && notStar e && mE z a e
  | .fnv k, .Name x _ => z.FV[k]? == some x && glB z.sc x && nmOk x
  | .cfv a ar es, .Call f xs [] _ => calB f && !z.FV.isEmpty && fvB z ar && mE z a f && mEs z es xs && capEs es
  | .isx a c, .Call (.Name x _) [e, .Name y _] [] _ => x == "isinstance" && z.CN[c]? == some y && glB z.sc x && glB z.sc y && nmOk y && mE z a e && notStar e
  | .isv a, .Call (.Name x _) [e, .Name y _] [] _ => !z.CN.isEmpty && x == "isinstance" && y == "ValueError" && glB z.sc x && glB z.sc y && mE z a e && notStar e
  | .xval a, .Attribute o name _ => !z.CN.isEmpty && name == "value" && baseB o && mE z a o
  | .isi2 a t u, .Call (.Name x _) [e, .Tuple [.Name y _, .Name w _] _ _] [] _ => x == "isinstance" && y == tyN t && w == tyN u && glB z.sc x && glB z.sc y && glB z.sc w && mE z a e && notStar e && tyB t && tyB u && nrd a
  | _, _ => false
def mEs (z : Sx) : Xps → List Expr → Bool
  | .nil, [] => true
  | .cons e r, x :: xs => notStar x && mE z e x && mEs z r xs
  | _, _ => false
def mD (z : Sx) : Xps → List (Option Expr) → List Expr → Bool
  | .nil, [], [] => true
  | .cons k (.cons v r), some kx :: ks, vx :: vs => mE z k kx && mE z v vx && mD z r ks vs
  | _, _, _ => false
def mKs (z : Sx) : Xps → List Keyword → Bool
  | .nil, [] => true
  | .cons e r, ⟨some _, x, _⟩ :: xs => mE z e x && mKs z r xs
  | _, _ => false
def mO (z : Sx) : Xpo → Option Expr → Bool
  | .none, none => true
  | .some e, some x => mE z e x
  | _, _ => false
def mC (z : Sx) : Xpo → List Expr → Bool
  | .none, [] => true
  | .some e, [x] => mE z e x
  | _, _ => false
def mI (z : Sx) : Iq → Expr → Expr → Bool
  | .seq e, _, x => mE z e x && cap e
  | .rng es, _, .Call (.Name n _) xs [] _ => n == "range" && glB z.sc n && mEs z es xs && nrdEs es && (xs.length == 1 || xs.length == 2 || xs.length == 3)
  | .zip es, tg, .Call (.Name n _) [x, y] [] _ => n == "zip" && glB z.sc n && mEs z es [x, y] && capEs es && isTup tg
  | .enm e, tg, .Call (.Name n _) [x] [] _ => n == "enumerate" && glB z.sc n && mE z e x && notStar x && cap e && isTup tg
  | .rvs e, _, .Call (.Name n _) [x] [] _ => n == "reversed" && glB z.sc n && mE z e x && notStar x && cap e
  | _, _, _ => false
end
end PV

/-! ## PV: the evaluator's answer is what the tree comes to (expressions) -/
namespace PV
open PySem PySem.Spec PyProof.Rows L2

def bltN : List Str := ["len", "int", "max", "min", "abs", "repr", "sorted", "str", "sum", "all", "any", "isinstance", "range", "zip", "enumerate", "list", "tuple", "bool", "dict", "ValueError", "set", "reversed"]
/-- what is true of the text's names and of the machine -/
structure Fa (K : PySem.W.Frag) (mg : Str → Option Value) : Prop where
  blt : ∀ x ∈ bltN, mg x = none
  dig : PySem.W.nsIn K cStatics "sys.int_max_str_digits" = some none
/-- a class of the package, number c (0: the root) -/
structure ClsR (K : PySem.W.Frag) (mg : Str → Option Value) (M : Nm) (CN : List Str) (c : Nat) (x : Str) (C : Addr) : Prop where
  g : mg x = some (.ref C)
  m : M.cls c = some (C, [("value" : Str)])
  cl : (PySem.W.clsIn K C).isSome = true
  ga : PySem.W.findIn K (.ref C) "__getattribute__" = some (some (.builtin "BaseException.__getattribute__"))
  gg : PySem.W.findIn K (.ref C) "__getattr__" = some none
  hd : PySem.W.hasDictIn K C = true
  ex : PySem.W.subIn K (.ref C) (.type "BaseException") = some true
  kv : PySem.W.kitOne K (.ref C) (.type "ValueError") = some true
  ha : PySem.W.findIn K (.ref C) "__class__" = some (some (.builtin "object.__class__"))
  hm : PySem.W.mroIn K C (.type "object") = some true
  va : PySem.W.findIn K (.ref C) "value" = some none
  ty : PySem.W.typeIn K (.ref C) = some (.type "type")
  su : ∀ d y, CN[d]? = some y → ∃ D, mg y = some (.ref D) ∧ (PySem.W.clsIn K D).isSome = true ∧ PySem.W.typeIn K (.ref D) = some (.type "type") ∧ PySem.W.kitOne K (.ref C) (.ref D) = some (d == 0 || d == c) ∧ PySem.W.exmOne K (.ref C) (.ref D) = some (d == 0 || d == c)
structure ClsT (K : PySem.W.Frag) (mg : Str → Option Value) (M : Nm) (CN : List Str) : Prop where
  all : ∀ (c : Nat) (x : Str), CN[c]? = some x → ∃ C, ClsR K mg M CN c x C
  only : ∀ c p, M.cls c = some p → ∃ x, CN[c]? = some x
  gt : PySem.W.specialIn K (.builtin "object.__class__") "__get__" = some (some (.builtin "getset_descriptor.__get__"))
  tk : PySem.W.takesIn K (.builtin "object.__class__") = some true
structure Cz (z : Sx) (X : Cx) (M : Nm) (G : PV.Env) (Wx : WX) : Prop where
  env : X.env.scope = z.sc
  N : X.N = z.N
  nd : X.N.Nodup
  calm : X.calm = true
  hd : X.A.handled = none
  K : M.K = X.K
  gd : X.A.guards = some []
  un : X.A.units + 65 < cLine
  fn : ∀ (f : Nat) (x : Str) (n : Nat) (q : List Kw), z.FN[f]? = some (x, n, q) → FnRule X M x n q (G.fn f)
  gv : ∀ (n : Nat) (x : Str) (d : D), z.GN[n]? = some x → G.gv n = some d → isOb d = false ∧ ∃ (u : Value) (v : V), X.mg x = some u ∧ RelV v u ∧ ∀ ags Ex H, VR M ags Ex H d v
  blt : ∀ x ∈ bltN, X.mg x = none
  dig : PySem.W.nsIn X.K cStatics "sys.int_max_str_digits" = some none
  fnb : ∀ x, z.fnB x = true → X.fn x = true
  fv : ∀ (k : Nat) (x : Str), z.FV[k]? = some x → ∃ f, X.mg x = some (.ref f) ∧ M.fn k = some (.ref f)
  fo : z.FV ≠ [] → ∀ k v, M.fn k = some v → k < z.FV.length
  ct : z.CN ≠ [] → ClsT X.K X.mg M z.CN
  tk : Takes X Wx

section
variable (G : PV.Env) (M : Nm) (Wx : WX)
def tE (m : Mo) (c : Xp) : TE := fun σV H Q => ∃ O ags W σ S, Sit M O ags W σ S σV H ∧ Pst M O W Wx σV ags H (evE G c σ S) fun d S' ags' H' => ∀ v, RelM m M O H ags' W H' d v → Q v H'
def tT (c : Xp) : TT := fun σV H Q => ∃ O ags W σ S, Sit M O ags W σ S σV H ∧ Pst M O W Wx σV ags H (evT G c σ S) fun k S' ags' H' => Q k H'
/-- operands; arguments -/
def RelMs (b : Bool) (O : Adr) (ags : List Addr) (W : Nat → Option Addr) (H : Hp) (ds : List D) (vs : List V) : Prop := if b = true then VRs M ags (exs O ags W) H ds vs else RelNs M O ags W H ds vs
def tA (b : Bool) (es : Xps) : TA := fun σV H Q => ∃ O ags W σ S, Sit M O ags W σ S σV H ∧ Pst M O W Wx σV ags H (evEs G es σ S) fun ds S' ags' H' => ∀ vs, RelMs M b O ags' W H' ds vs → Q vs H'
def tO (o : Xpo) : TO := fun σV H Q => ∃ O ags W σ S, Sit M O ags W σ S σV H ∧ Pst M O W Wx σV ags H (evO G o σ S) fun p S' ags' H' => Q p H'
/-- a walk that meets the items xs -/
def ItD (ags : List Addr) (Ex : Adr) (H₀ : Hp) (J : It) (xs : List D) : Prop := ∀ ags' Ex' H', Le ags Ex H₀ ags' Ex' H' → (∀ a, Ex' a → H' a ≠ none) → ∀ i, (xs.length ≤ i → J.stop i H') ∧
  ∀ d, xs[i]? = some d → J.go i H' ∧ ∀ x H'', J.yld i H' x H'' → VR M ags' Ex' H'' d x ∧ (H'' = H' ∨ ∃ p o, H' p = none ∧ H'' = upd H' p o)
def tI (it : Iq) : TI := fun σV H R => ∃ O ags W σ S, Sit M O ags W σ S σV H ∧ Pst M O W Wx σV ags H (evI G it σ S) fun xs S' ags' H' => ∀ J, xs.length ≤ sizeLine → ItD M ags' (exs O ags' W) H' J xs → R J H'
end

section
variable {X : Cx} {M : Nm} {G : PV.Env} {Wx : WX} {z : Sx} {pos : Pos} {a b c : Expr} {ca cb cc : Xp}
theorem vis_of {sc : Scope} {x : Str} (h : visB sc x = true) : Vis sc x := by
  unfold visB at h
  unfold Vis
  split at h
  · exact .inl ‹_›
  · exact .inr (.inl ‹_›)
  · exact .inr (.inr ‹_›)
  · cases h
theorem nm_of {x : Str} (h : nmOk x = true) : (x == ("__debug__" : Str)) = false ∧ (x == ("__classdict__" : Str)) = false ∧ x ≠ "__name__" := by
  unfold nmOk at h
  simp only [Bool.and_eq_true, bne_iff_ne] at h
  exact ⟨beq_eq_false_iff_ne.mpr h.1.1, beq_eq_false_iff_ne.mpr h.1.2, h.2⟩
theorem star_of {e : Expr} {es : List Expr} {env : PySem.Env} (h : notStar e = true) : starEach (e :: es) env = (false, eval e env) :: starEach es env := by
  cases e <;> first | rfl | cases h
theorem v_var {i : Nat} {x : Str} (Z : Cz z X M G Wx) (hN : z.N[i]? = some x) (hv : visB z.sc x = true) (hn : nmOk x = true) : PE X (.Name x pos) (tVar i) :=
  pe_var (by rw [Z.N]; exact hN) (by rw [Z.env]; exact vis_of hv) (nm_of hn).1 (nm_of hn).2.1
theorem e_var {i : Nat} {x : Str} {m : Mo} (Z : Cz z X M G Wx) (hN : z.N[i]? = some x) (hv : visB z.sc x = true) (hn : nmOk x = true) (hm : okMo m (.var i) = true) : PE X (.Name x pos) (tE G M Wx m (.var i)) := by
  refine PE.imp (v_var Z hN hv hn) fun σV H Q h => ?_
  obtain ⟨O, ags, W, σ, S, sit, h⟩ := h
  simp only [evE] at h
  split at h
  · rename_i d e
    obtain ⟨v, e1, r⟩ := sit.val i d e
    refine ⟨v, e1, h.ok sit.sto v ?_⟩
    cases m with
    | now => exact .inl r
    | bor => exact .inl r
    | cap => exact r
    | frs => cases hm
  · exact h.elim
theorem e_bvar {i : Nat} {x : Str} {m : Mo} (Z : Cz z X M G Wx) (hN : z.N[i]? = some x) (hv : visB z.sc x = true) (hn : nmOk x = true) (hm : okMo m (.bvar i) = true) : PE X (.Name x pos) (tE G M Wx m (.bvar i)) := by
  refine PE.imp (v_var Z hN hv hn) fun σV H Q h => ?_
  obtain ⟨O, ags, W, σ, S, sit, h⟩ := h
  simp only [evE] at h
  have key : ∀ {d v}, RelB M O ags W H d v → RelM m M O H ags W H d v := fun {d v} r => by
    cases m with
    | now => exact r.n
    | bor => exact r
    | cap => cases hm
    | frs => cases hm
  cases e : σ[i]? with
  | none => rw [e] at h; exact h.elim
  | some s =>
    rw [e] at h
    cases s with
    | un => exact h.elim
    | val d =>
      obtain ⟨v, e1, r⟩ := sit.val i d e
      exact ⟨v, e1, h.ok sit.sto v (key (.inl r))⟩
    | own d =>
      obtain ⟨a, hw, e1, r⟩ := sit.own i d e
      exact ⟨_, e1, h.ok sit.sto _ (key (.inr ⟨a, _, rfl, ⟨(sit.sto.wn i a hw).2.1, (sit.sto.wn i a hw).1⟩, fun _ z => z, r⟩))⟩
theorem e_lit {d : D} {k : Const} {j : Nat} {m : Mo} (h : litB d k = true) : PE X (.Constant k j pos) (tE G M Wx m (.lit d)) := by
  have go : ∀ {v : V} {e : Expr}, PE X e (tC v) → (isOb d = false ∧ ∀ ags Ex H, VR M ags Ex H d v) → PE X e (tE G M Wx m (.lit d)) := fun {v e} p hv => PE.imp p fun σV H Q h => by
    obtain ⟨O, ags, W, σ, S, sit, h⟩ := h
    simp only [evE] at h
    exact h.ok sit.sto v (RelM.ofF (.inl ⟨hv.1, hv.2 _ _ _⟩))
  unfold litB at h
  split at h
  · exact go pe_non ⟨rfl, fun _ _ _ => rfl⟩
  · rename_i b c
    have e : b = c := by simpa using h
    subst e
    exact go pe_bl ⟨rfl, fun _ _ _ => rfl⟩
  · rename_i b c
    have e : b = c := by simpa using h
    subst e
    exact go pe_int ⟨rfl, fun _ _ _ => rfl⟩
  · rename_i x y
    simp only [Bool.and_eq_true, beq_iff_eq, goodB, decide_eq_true_eq, List.all_eq_true] at h
    obtain ⟨e, h1, h2⟩ := h
    subst e
    exact go pe_str ⟨rfl, fun _ _ _ => ⟨rfl, by rw [sizeLine_eq]; exact h1, fun c hc => by simpa using h2 c hc⟩⟩
  · cases h
theorem e_gv {n : Nat} {x : Str} {m : Mo} (Z : Cz z X M G Wx) (hN : z.GN[n]? = some x) (hg : glB z.sc x = true) (hn : nmOk x = true) : PE X (.Name x pos) (tE G M Wx m (.gv n)) := by
  have hgl : Gl X x := by
    unfold glB at hg
    show X.env.scope.names.lookup x = _
    rw [Z.env]
    simpa using hg
  cases e : G.gv n with
  | none =>
    refine ⟨fun pins s σ H Q I h => ?_⟩
    obtain ⟨O, ags, W, σ, S, sit, h⟩ := h
    simp only [evE, e] at h
    exact h.elim
  | some d =>
    obtain ⟨h0, u, v, hm, rv, hv⟩ := Z.gv n x d hN e
    refine PE.imp (pe_glob hgl hm rv (nm_of hn).1) fun σV H Q h => ?_
    obtain ⟨O, ags, W, σ, S, sit, h⟩ := h
    simp only [evE, e] at h
    exact h.ok sit.sto v (RelM.ofF (.inl ⟨h0, hv _ _ _⟩))

/-- two operands, then an operation -/
theorem two_ops {α : Type} {O : Adr} {ags : List Addr} {W : Nat → Option Addr} {σ : Sg} {S : List D} {σV : L2.St} {H : Hp} {f : D → D → List D → R α} {K : α → List D → List Addr → Hp → Prop} {R0 : V → V → Hp → Prop}
    (sit : Sit M O ags W σ S σV H) (h : Pst M O W Wx σV ags H ((evE G ca σ S).bnd fun x S1 => (evE G cb σ S1).bnd fun y S2 => f x y S2) K)
    (k : ∀ x y S2 ags2 H2 v w, Ext ags H ags2 H2 → SR M O ags2 W H2 S2 → RelB M O ags2 W H2 x v → RelN M O ags2 W H2 y w → Pst M O W Wx σV ags2 H2 (f x y S2) K → R0 v w H2) :
    tE G M Wx .bor ca σV H fun v H1 => tE G M Wx .now cb σV H1 fun w H2 => R0 v w H2 :=
  ⟨O, ags, W, σ, S, sit, (Pst.bnd h).imp fun x S1 ags1 H1 e1 r1 h1 v rv => ⟨O, ags1, W, σ, S1, sit.ext e1 r1, (Pst.bnd h1).imp fun y S2 ags2 H2 e2 r2 h2 w rw' =>
    k x y S2 ags2 H2 v w (e1.trans e2 r1) r2 (RelB.ext e2 rv) rw' h2⟩⟩
theorem two_opsB {α : Type} {O : Adr} {ags : List Addr} {W : Nat → Option Addr} {σ : Sg} {S : List D} {σV : L2.St} {H : Hp} {f : D → D → List D → R α} {K : α → List D → List Addr → Hp → Prop} {R0 : V → V → Hp → Prop}
    (sit : Sit M O ags W σ S σV H) (h : Pst M O W Wx σV ags H ((evE G ca σ S).bnd fun x S1 => (evE G cb σ S1).bnd fun y S2 => f x y S2) K)
    (k : ∀ x y S2 ags2 H2 v w, Ext ags H ags2 H2 → SR M O ags2 W H2 S2 → RelB M O ags2 W H2 x v → RelB M O ags2 W H2 y w → Pst M O W Wx σV ags2 H2 (f x y S2) K → R0 v w H2) :
    tE G M Wx .bor ca σV H fun v H1 => tE G M Wx .bor cb σV H1 fun w H2 => R0 v w H2 :=
  ⟨O, ags, W, σ, S, sit, (Pst.bnd h).imp fun x S1 ags1 H1 e1 r1 h1 v rv => ⟨O, ags1, W, σ, S1, sit.ext e1 r1, (Pst.bnd h1).imp fun y S2 ags2 H2 e2 r2 h2 w rw' =>
    k x y S2 ags2 H2 v w (e1.trans e2 r1) r2 (RelB.ext e2 rv) rw' h2⟩⟩
theorem e_bin {o : Bop} {m : Mo} (ha : PE X a (tE G M Wx .bor ca)) (hb : PE X b (tE G M Wx .now cb)) : PE X (.BinOp a (opP o) b pos) (tE G M Wx m (.bin o ca cb)) := by
  refine PE.imp (pe_op (op_bop (M := M) o) ha hb) fun σV H Q h => ?_
  obtain ⟨O, ags, W, σ, S, sit, h⟩ := h
  simp only [evE] at h
  refine two_ops sit h fun x y S2 ags2 H2 v w e2 r2 rv rw' h2 => ?_
  cases hf : bopD o x y with
  | none => rw [hf] at h2; exact h2.elim
  | some f =>
    rw [hf] at h2
    exact ⟨O, ags2, W, S2, x, y, f, rv.n, rw', hf, r2, fun v' H' e3 r3 rf => h2 _ _ e3 r3 v' (RelM.ofF (RelF.back e2 r2 rf))⟩
theorem e_neg {m : Mo} (ha : PE X a (tE G M Wx .now ca)) : PE X (.UnaryOp .USub a pos) (tE G M Wx m (.neg ca)) := by
  refine PE.imp (pe_un un_neg ha) fun σV H Q h => ?_
  obtain ⟨O, ags, W, σ, S, sit, h⟩ := h
  simp only [evE] at h
  refine ⟨O, ags, W, σ, S, sit, (Pst.bnd h).imp fun x S1 ags1 H1 e1 r1 h1 v rv => ?_⟩
  cases x with
  | int i => cases rv.int; exact ⟨i, rfl, h1.ok r1 _ (RelM.ofF (.inl ⟨rfl, rfl⟩))⟩
  | _ => exact h1.elim
theorem e_nt {m : Mo} (ha : PE X a (tE G M Wx .now ca)) : PE X (.UnaryOp .Not a pos) (tE G M Wx m (.nt ca)) := by
  refine PE.imp (pe_not ha) fun σV H Q h => ?_
  obtain ⟨O, ags, W, σ, S, sit, h⟩ := h
  simp only [evE] at h
  refine ⟨O, ags, W, σ, S, sit, (Pst.bnd h).imp fun x S1 ags1 H1 e1 r1 h1 v rv => ?_⟩
  cases x with
  | bl i => cases rv.bl; exact ⟨i, rfl, h1.ok r1 _ (RelM.ofF (.inl ⟨rfl, rfl⟩))⟩
  | _ => exact h1.elim
theorem e_and {rest : List Expr} {m : Mo} (ha : PE X a (tE G M Wx .now ca)) (hb : PE X (.BoolOp .And (b :: rest) pos) (tE G M Wx m cb)) (hm : m ≠ .frs) : PE X (.BoolOp .And (a :: b :: rest) pos) (tE G M Wx m (.and_ ca cb)) := by
  refine PE.imp (pe_and ha hb) fun σV H Q h => ?_
  obtain ⟨O, ags, W, σ, S, sit, h⟩ := h
  simp only [evE] at h
  refine ⟨O, ags, W, σ, S, sit, (Pst.bnd h).imp fun x S1 ags1 H1 e1 r1 h1 v rv => ?_⟩
  cases x with
  | bl i =>
    cases rv.bl
    refine ⟨i, rfl, ?_⟩
    cases i with
    | true => exact iteT ⟨O, ags1, W, σ, S1, sit.ext e1 r1, h1.imp fun d S2 ags2 H2 e2 r2 k w rw' => k w (by cases m with | now => exact rw' | bor => exact rw' | cap => exact rw' | frs => exact absurd rfl hm)⟩
    | false => exact iteF (h1.ok r1 _ (RelM.ofF (.inl ⟨rfl, rfl⟩)))
  | _ => exact h1.elim
theorem e_or {rest : List Expr} {m : Mo} (ha : PE X a (tE G M Wx .now ca)) (hb : PE X (.BoolOp .Or (b :: rest) pos) (tE G M Wx m cb)) (hm : m ≠ .frs) : PE X (.BoolOp .Or (a :: b :: rest) pos) (tE G M Wx m (.or_ ca cb)) := by
  refine PE.imp (pe_or ha hb) fun σV H Q h => ?_
  obtain ⟨O, ags, W, σ, S, sit, h⟩ := h
  simp only [evE] at h
  refine ⟨O, ags, W, σ, S, sit, (Pst.bnd h).imp fun x S1 ags1 H1 e1 r1 h1 v rv => ?_⟩
  cases x with
  | bl i =>
    cases rv.bl
    refine ⟨i, rfl, ?_⟩
    cases i with
    | false => exact iteF ⟨O, ags1, W, σ, S1, sit.ext e1 r1, h1.imp fun d S2 ags2 H2 e2 r2 k w rw' => k w (by cases m with | now => exact rw' | bor => exact rw' | cap => exact rw' | frs => exact absurd rfl hm)⟩
    | true => exact iteT (h1.ok r1 _ (RelM.ofF (.inl ⟨rfl, rfl⟩)))
  | _ => exact h1.elim
theorem e_one {op : BoolOp} {m : Mo} (ha : PE X a (tE G M Wx m ca)) : PE X (.BoolOp op [a] pos) (tE G M Wx m (.one ca)) := by
  refine PE.imp (pe_one ha) fun σV H Q h => ?_
  obtain ⟨O, ags, W, σ, S, sit, h⟩ := h
  simp only [evE] at h
  exact ⟨O, ags, W, σ, S, sit, h⟩
theorem RelM.backM {O : Adr} {ags1 ags2 : List Addr} {W : Nat → Option Addr} {m : Mo} {ags : List Addr} {H H1 H2 : Hp} {S1 : List D} {d : D} {v : V} (e : Ext ags H ags1 H1) (r : SR M O ags1 W H1 S1) (h : RelM m M O H1 ags2 W H2 d v) : RelM m M O H ags2 W H2 d v := by
  cases m with
  | now => exact h
  | bor => exact h
  | cap => exact h
  | frs => exact RelF.back e r h
theorem e_ife {m : Mo} (hc : PT X c (tT G M Wx cc)) (ha : PE X a (tE G M Wx m ca)) (hb : PE X b (tE G M Wx m cb)) : PE X (.IfExp c a b pos) (tE G M Wx m (.ife cc ca cb)) := by
  refine PE.imp (pe_ifExp hc ha hb) fun σV H Q h => ?_
  obtain ⟨O, ags, W, σ, S, sit, h⟩ := h
  simp only [evE] at h
  refine ⟨O, ags, W, σ, S, sit, (Pst.bnd h).imp fun k S1 ags1 H1 e1 r1 h1 => ?_⟩
  have fin : ∀ {cx : Xp}, Pst M O W Wx σV ags1 H1 (evE G cx σ S1) (fun d S' ags' H' => ∀ v, RelM m M O H ags' W H' d v → Q v H') → tE G M Wx m cx σV H1 Q := fun {cx} h2 =>
    ⟨O, ags1, W, σ, S1, sit.ext e1 r1, h2.imp fun d S2 ags2 H2 e2 r2 q v rv => q v (RelM.backM e1 r1 rv)⟩
  cases k with
  | true => exact iteT (fin h1)
  | false => exact iteF (fin h1)
theorem cmp_ops {o : Cop} {O : Adr} {W : Nat → Option Addr} {σV : L2.St} {ags : List Addr} {H : Hp} {x y : D} {S : List D} {v w : V} {Q : VK} {K : D → List D → List Addr → Hp → Prop}
    (sr : SR M O ags W H S) (rv : RelN M O ags W H x v) (rw' : RelN M O ags W H y w) (h : Pst M O W Wx σV ags H (R.lif ((copD o x y).map .bl) S) K) (k : ∀ b, K (.bl b) S ags H → Q (.bl b) H) : rCop M o v w H Q := by
  cases hf : copD o x y with
  | none => rw [hf] at h; exact h.elim
  | some b =>
    rw [hf] at h
    exact ⟨ags, x, y, b, rv.d, rw'.d, hf, k b (h.ok sr)⟩
theorem notSet_marks {e : Expr} {op : CmpOp} (h : notSet e = true) : behindInMarks op e = false := by
  cases e <;> first | rfl | cases h
theorem e_cmp {o : Cop} {m : Mo} (Z : Cz z X M G Wx) (hs : notSet b = true) (ha : PE X a (tE G M Wx .bor ca)) (hb : PE X b (tE G M Wx .now cb)) : PE X (.Compare a [copP o] [b] pos) (tE G M Wx m (.cmp o ca cb)) := by
  refine PE.imp (pe_cmpR (op_cop (M := M) Z.un o) ha hb (notSet_marks hs)) fun σV H Q h => ?_
  obtain ⟨O, ags, W, σ, S, sit, h⟩ := h
  simp only [evE] at h
  exact two_ops sit h fun x y S2 ags2 H2 v w e2 r2 rv rw' h2 => cmp_ops r2 rv.n rw' h2 fun k q => q _ (RelM.ofF (.inl ⟨rfl, rfl⟩))
theorem t_cmp {o : Cop} (Z : Cz z X M G Wx) (hs : notSet b = true) (ha : PE X a (tE G M Wx .bor ca)) (hb : PE X b (tE G M Wx .now cb)) : PT X (.Compare a [copP o] [b] pos) (tT G M Wx (.cmp o ca cb)) := by
  refine PT.imp (pt_cmpR (op_cop (M := M) Z.un o) ha hb (notSet_marks hs)) fun σV H Q h => ?_
  obtain ⟨O, ags, W, σ, S, sit, h⟩ := h
  simp only [evT] at h
  refine two_ops sit h fun x y S2 ags2 H2 v w e2 r2 rv rw' h2 => ?_
  cases hf : copD o x y with
  | none => rw [hf] at h2; exact h2.elim
  | some k =>
    rw [hf] at h2
    exact ⟨ags2, x, y, k, rv.d, rw'.d, hf, k, rfl, h2.ok r2⟩
theorem e_cmpX {o : Cop} {m : Mo} (Z : Cz z X M G Wx) (hs : notSet b = true) (ha : PE X a (tE G M Wx .bor ca)) (hb : PE X b (tE G M Wx .bor cb)) : PE X (.Compare a [copP o] [b] pos) (tE G M Wx m (.cmpX o ca cb)) := by
  refine PE.imp (pe_cmpR (op_cop (M := M) Z.un o) ha hb (notSet_marks hs)) fun σV H Q h => ?_
  obtain ⟨O, ags, W, σ, S, sit, h⟩ := h
  simp only [evE] at h
  refine two_opsB sit h fun x y S2 ags2 H2 v w e2 r2 rv rw' h2 => ?_
  cases hf : copD o (deepD S2 x) (deepD S2 y) with
  | none => rw [hf] at h2; exact h2.elim
  | some k =>
    rw [hf] at h2
    exact ⟨ags2, _, _, k, rv.d.deep r2, rw'.d.deep r2, hf, h2.ok r2 _ (RelM.ofF (.inl ⟨rfl, rfl⟩))⟩
theorem t_cmpX {o : Cop} (Z : Cz z X M G Wx) (hs : notSet b = true) (ha : PE X a (tE G M Wx .bor ca)) (hb : PE X b (tE G M Wx .bor cb)) : PT X (.Compare a [copP o] [b] pos) (tT G M Wx (.cmpX o ca cb)) := by
  refine PT.imp (pt_cmpR (op_cop (M := M) Z.un o) ha hb (notSet_marks hs)) fun σV H Q h => ?_
  obtain ⟨O, ags, W, σ, S, sit, h⟩ := h
  simp only [evT] at h
  refine two_opsB sit h fun x y S2 ags2 H2 v w e2 r2 rv rw' h2 => ?_
  cases hf : copD o (deepD S2 x) (deepD S2 y) with
  | none => rw [hf] at h2; exact h2.elim
  | some k =>
    rw [hf] at h2
    exact ⟨ags2, _, _, k, rv.d.deep r2, rw'.d.deep r2, hf, k, rfl, h2.ok r2⟩
theorem chn_ops {o p : Cop} {α : Type} {O : Adr} {W : Nat → Option Addr} {σ : Sg} {σV : L2.St} {ags : List Addr} {H : Hp} {x y : D} {S : List D} {v w : V} {Q : VK} {K : α → List D → List Addr → Hp → Prop} {g : Bool → α}
    (sit : Sit M O ags W σ S σV H) (rv : RelB M O ags W H x v) (rw' : RelB M O ags W H y w)
    (h : Pst M O W Wx σV ags H ((R.lif (copD o x y) S).bnd fun k S3 => if k = true then (evE G cc σ S3).bnd fun z S4 => R.lif ((copD p y z).map g) S4 else .ok (g false) S3) K)
    (q : ∀ b S' ags' H', K (g b) S' ags' H' → Q (.bl b) H') :
    rCop M o v w H fun z H3 => ∃ k, z = .bl k ∧ (if k = true then tE G M Wx .now cc σV H3 fun w' H4 => rCop M p w w' H4 Q else Q (.bl false) H3) := by
  cases hf : copD o x y with
  | none => rw [hf] at h; exact h.elim
  | some k =>
    rw [hf] at h
    refine ⟨ags, x, y, k, rv.d, rw'.d, hf, k, rfl, ?_⟩
    simp only [R.lif_some, R.bnd_ok] at h
    cases k with
    | false => exact iteF (q false _ _ _ (h.ok sit.sto))
    | true =>
      refine iteT ⟨O, ags, W, σ, S, sit, (Pst.bnd h).imp fun u S4 ags4 H4 e4 r4 h4 t rt => ?_⟩
      cases hp : copD p y u with
      | none => rw [hp] at h4; exact h4.elim
      | some k2 =>
        rw [hp] at h4
        exact ⟨ags4, y, u, k2, (RelB.ext e4 rw').d, rt.d, hp, q k2 _ _ _ (h4.ok r4)⟩
theorem e_chn {o p : Cop} {m : Mo} (Z : Cz z X M G Wx) (hs : notSet c = true) (ha : PE X a (tE G M Wx .bor ca)) (hb : PE X b (tE G M Wx .bor cb)) (hc : PE X c (tE G M Wx .now cc)) :
    PE X (.Compare a [copP o, copP p] [b, c] pos) (tE G M Wx m (.chn o p ca cb cc)) := by
  refine PE.imp (pe_chain (op_cop (M := M) Z.un o) (op_cop (M := M) Z.un p) ha hb hc (notSet_marks hs)) fun σV H Q h => ?_
  obtain ⟨O, ags, W, σ, S, sit, h⟩ := h
  simp only [evE] at h
  exact two_opsB sit h fun x y S2 ags2 H2 v w e2 r2 rv rw' h2 => chn_ops (sit.ext e2 r2) rv rw' h2 fun b S' ags' H' k => k _ (RelM.ofF (.inl ⟨rfl, rfl⟩))
theorem t_chn {o p : Cop} (Z : Cz z X M G Wx) (hs : notSet c = true) (ha : PE X a (tE G M Wx .bor ca)) (hb : PE X b (tE G M Wx .bor cb)) (hc : PE X c (tE G M Wx .now cc)) :
    PT X (.Compare a [copP o, copP p] [b, c] pos) (tT G M Wx (.chn o p ca cb cc)) := by
  refine PT.imp (pt_chain (op_cop (M := M) Z.un o) (op_cop (M := M) Z.un p) ha hb hc (notSet_marks hs)) fun σV H Q h => ?_
  obtain ⟨O, ags, W, σ, S, sit, h⟩ := h
  simp only [evT] at h
  refine two_opsB sit h fun x y S2 ags2 H2 v w e2 r2 rv rw' h2 => chn_ops (g := id) (K := fun k S' ags' H' => Q k H') (Q := fun z H3 => ∃ k, z = .bl k ∧ Q k H3) (sit.ext e2 r2) rv rw' ?_ fun b S' ags' H' k => ⟨b, rfl, k⟩
  simpa using h2

/-! ### tests -/
theorem t_not (ha : PT X a (tT G M Wx ca)) : PT X (.UnaryOp .Not a pos) (tT G M Wx (.nt ca)) := by
  refine PT.imp (pt_not ha) fun σV H Q h => ?_
  obtain ⟨O, ags, W, σ, S, sit, h⟩ := h
  simp only [evT] at h
  exact ⟨O, ags, W, σ, S, sit, (Pst.bnd h).imp fun k S1 ags1 H1 e1 r1 h1 => h1.ok r1⟩
theorem w_and {rest : List Expr} (ha : PT X a (tT G M Wx ca)) (hb : PW X (.BoolOp .And (b :: rest) pos) (tT G M Wx cb)) : PW X (.BoolOp .And (a :: b :: rest) pos) (tT G M Wx (.and_ ca cb)) := by
  refine PW.imp (pw_and ha hb) fun σV H Q h => ?_
  obtain ⟨O, ags, W, σ, S, sit, h⟩ := h
  simp only [evT] at h
  refine ⟨O, ags, W, σ, S, sit, (Pst.bnd h).imp fun k S1 ags1 H1 e1 r1 h1 => ?_⟩
  cases k with
  | true => exact iteT ⟨O, ags1, W, σ, S1, sit.ext e1 r1, h1⟩
  | false => exact iteF (h1.ok r1)
theorem w_or {rest : List Expr} (ha : PT X a (tT G M Wx ca)) (hb : PW X (.BoolOp .Or (b :: rest) pos) (tT G M Wx cb)) : PW X (.BoolOp .Or (a :: b :: rest) pos) (tT G M Wx (.or_ ca cb)) := by
  refine PW.imp (pw_or ha hb) fun σV H Q h => ?_
  obtain ⟨O, ags, W, σ, S, sit, h⟩ := h
  simp only [evT] at h
  refine ⟨O, ags, W, σ, S, sit, (Pst.bnd h).imp fun k S1 ags1 H1 e1 r1 h1 => ?_⟩
  cases k with
  | false => exact iteF ⟨O, ags1, W, σ, S1, sit.ext e1 r1, h1⟩
  | true => exact iteT (h1.ok r1)
theorem w_one {op : BoolOp} (ha : PT X a (tT G M Wx ca)) : PW X (.BoolOp op [a] pos) (tT G M Wx (.one ca)) := by
  have go : tT G M Wx (.one ca) = tT G M Wx ca := by
    funext σV H Q
    unfold tT
    simp only [evT]
  rw [go]
  cases op with
  | And => exact pw_and1 ha
  | Or => exact pw_or1 ha
end
end PV

/-! ## PV: arguments, displays, places, slices, built-ins, calls -/
namespace PV
open PySem PySem.Spec PyProof.Rows L2

section
variable {X : Cx} {M : Nm} {G : PV.Env} {Wx : WX} {z : Sx} {pos : Pos} {a b c e : Expr} {es : List Expr} {ca cb cc ce : Xp} {ces : Xps}
/-! ### arguments -/
def moB (b : Bool) : Mo := if b = true then .cap else .bor
theorem RelMs.nil {b : Bool} {O : Adr} {ags : List Addr} {W : Nat → Option Addr} {H : Hp} : RelMs M b O ags W H [] [] := by
  unfold RelMs
  cases b
  · rw [if_neg Bool.false_ne_true]; rfl
  · rw [if_pos rfl]; rfl
theorem RelMs.cons {b : Bool} {O : Adr} {ags : List Addr} {W : Nat → Option Addr} {H : Hp} {H0 : Hp} {d : D} {v : V} {ds : List D} {vs : List V} (h : RelM (moB b) M O H0 ags W H d v) (k : RelMs M b O ags W H ds vs) : RelMs M b O ags W H (d :: ds) (v :: vs) := by
  unfold RelMs at k ⊢
  unfold moB at h
  cases b with
  | true => simp only [if_true] at h k ⊢; exact ⟨v, vs, rfl, h, k⟩
  | false => simp only [Bool.false_eq_true, if_false] at h k ⊢; exact ⟨v, vs, rfl, RelB.n h, k⟩
theorem RelM.ext {m : Mo} {O : Adr} {ags ags' : List Addr} {W : Nat → Option Addr} {H H' H0 H0' : Hp} {d : D} {v : V} (hm : m ≠ .frs) (hn : m ≠ .now) (e : Ext ags H ags' H') (h : RelM m M O H0 ags W H d v) : RelM m M O H0' ags' W H' d v := by
  cases m with
  | now => exact absurd rfl hn
  | bor => exact RelB.ext e h
  | cap => exact VR.le e.le _ _ h
  | frs => exact absurd rfl hm
theorem moB_ne (b : Bool) : moB b ≠ .frs := by cases b <;> (unfold moB; simp)
theorem moB_nw (b : Bool) : moB b ≠ .now := by cases b <;> (unfold moB; simp)
theorem a_nil (b : Bool) : PA X [] (tA G M Wx b .nil) := by
  refine PA.imp pa_nil fun σV H Q h => ?_
  obtain ⟨O, ags, W, σ, S, sit, h⟩ := h
  simp only [evEs] at h
  exact h.ok sit.sto [] RelMs.nil
theorem a_cons {bb : Bool} (he : PE X e (tE G M Wx (moB bb) ce)) (hr : PA X es (tA G M Wx bb ces)) (hs : notStar e = true) : PA X (e :: es) (tA G M Wx bb (.cons ce ces)) := by
  refine PA.imp (pa_cons he hr (star_of hs)) fun σV H Q h => ?_
  obtain ⟨O, ags, W, σ, S, sit, h⟩ := h
  simp only [evEs] at h
  refine ⟨O, ags, W, σ, S, sit, (Pst.bnd h).imp fun x S1 ags1 H1 e1 r1 h1 v rv => ⟨O, ags1, W, σ, S1, sit.ext e1 r1, (Pst.bnd h1).imp fun ds S2 ags2 H2 e2 r2 h2 vs rvs => ?_⟩⟩
  exact h2.ok r2 (v :: vs) (RelMs.cons (H0 := H) (RelM.ext (moB_ne bb) (moB_nw bb) e2 rv) rvs)
/-- the last operand -/
theorem a_last (he : PE X e (tE G M Wx .now ce)) (hs : notStar e = true) : PA X [e] (tA G M Wx false (.cons ce .nil)) := by
  refine PA.imp (pa_cons he pa_nil (star_of hs)) fun σV H Q h => ?_
  obtain ⟨O, ags, W, σ, S, sit, h⟩ := h
  simp only [evEs] at h
  refine ⟨O, ags, W, σ, S, sit, (Pst.bnd h).imp fun x S1 ags1 H1 e1 r1 h1 v rv => ?_⟩
  simp only [R.bnd_ok] at h1
  exact h1.ok r1 [v] ⟨v, [], rfl, rv, rfl⟩
theorem k_nil : PK X [] (tA G M Wx true .nil) := by
  have p : PK X [] tNil := pk_nil
  refine ⟨fun pos pins s σV H Q I h => p.run pos pins s σV H Q I ?_⟩
  obtain ⟨O, ags, W, σ, S, sit, h⟩ := h
  simp only [evEs] at h
  exact h.ok sit.sto [] RelMs.nil
theorem k_cons {nm : Option Str} {kpos : Pos} {kws : List Keyword} (he : PE X e (tE G M Wx .cap ce)) (hr : PK X kws (tA G M Wx true ces)) : PK X (⟨nm, e, kpos⟩ :: kws) (tA G M Wx true (.cons ce ces)) := by
  have p : PK X (⟨nm, e, kpos⟩ :: kws) _ := pk_cons he hr
  refine ⟨fun pos pins s σV H Q I h => p.run pos pins s σV H Q I ?_⟩
  obtain ⟨O, ags, W, σ, S, sit, h⟩ := h
  simp only [evEs] at h
  refine ⟨O, ags, W, σ, S, sit, (Pst.bnd h).imp fun x S1 ags1 H1 e1 r1 h1 v rv => ⟨O, ags1, W, σ, S1, sit.ext e1 r1, (Pst.bnd h1).imp fun ds S2 ags2 H2 e2 r2 h2 vs rvs => ?_⟩⟩
  exact h2.ok r2 (v :: vs) (RelMs.cons (H0 := H) (RelM.ext (moB_ne true) (moB_nw true) e2 rv) rvs)
theorem mEs_any {pos : Pos} {env : PySem.Env} : ∀ {ces : Xps} {xs : List Expr}, mEs z ces xs = true → (backTo pos (starEach xs env)).any (·.1) = false
  | .nil, [], _ => rfl
  | .cons _ r, x :: xs, h => by
    simp only [mEs, Bool.and_eq_true] at h
    rw [star_of h.1.1]
    show (false || (backTo pos (starEach xs env)).any (·.1)) = false
    rw [mEs_any h.2]; rfl
  | .nil, _ :: _, h => by simp [mEs] at h
  | .cons _ _, [], h => by simp [mEs] at h
theorem mKs_all {pos : Pos} {env : PySem.Env} : ∀ {ces : Xps} {xs : List Keyword}, mKs z ces xs = true → (backToKw pos (keywordEach xs env)).all (·.1.isSome) = true ∧ (backToKw pos (keywordEach xs env)).any (·.1.isNone) = false ∧
    (backToKw pos (keywordEach xs env)).filterMap (·.1) = xs.filterMap (·.arg)
  | .nil, [], _ => ⟨rfl, rfl, rfl⟩
  | .cons _ r, ⟨some n, x, kp⟩ :: xs, h => by
    simp only [mKs, Bool.and_eq_true] at h
    obtain ⟨h1, h2, h3⟩ := mKs_all (pos := pos) (env := env) h.2
    refine ⟨?_, ?_, ?_⟩
    · show (true && (backToKw pos (keywordEach xs env)).all (·.1.isSome)) = true
      rw [h1]; rfl
    · show (false || (backToKw pos (keywordEach xs env)).any (·.1.isNone)) = false
      rw [h2]; rfl
    · show n :: (backToKw pos (keywordEach xs env)).filterMap (·.1) = n :: xs.filterMap (·.arg)
      rw [h3]
  | .nil, _ :: _, h => by simp [mKs] at h
  | .cons _ _, [], h => by simp [mKs] at h
  | .cons _ _, ⟨none, _, _⟩ :: _, h => by simp [mKs] at h

/-! ### displays -/
theorem e_tup {x1} {m : Mo} (ha : PA X es (tA G M Wx true ces)) : PE X (.Tuple es x1 pos) (tE G M Wx m (.tup ces)) := by
  refine PE.imp (pe_tup ha) fun σV H Q h => ?_
  obtain ⟨O, ags, W, σ, S, sit, h⟩ := h
  simp only [evE] at h
  refine ⟨O, ags, W, σ, S, sit, (Pst.bnd h).imp fun ds S1 ags1 H1 e1 r1 h1 vs rvs => ?_⟩
  have rvs : VRs M ags1 (exs O ags1 W) H1 ds vs := rvs
  split at h1
  · rename_i hz
    refine ⟨by rw [rvs.length, ← SZ_eq]; exact hz, fun p hp => ?_⟩
    exact h1 _ _ (Ext.upd hp) (r1.upd hp) _ (RelM.ofF (RelF.back e1 r1 (RelF.newT r1 hp rvs)))
  · exact h1.elim
theorem e_lst {m : Mo} (ha : PA X es (tA G M Wx true ces)) : PE X (.List es pos) (tE G M Wx m (.lst ces)) := by
  refine PE.imp (pe_lst ha) fun σV H Q h => ?_
  obtain ⟨O, ags, W, σ, S, sit, h⟩ := h
  simp only [evE] at h
  refine ⟨O, ags, W, σ, S, sit, (Pst.bnd h).imp fun ds S1 ags1 H1 e1 r1 h1 vs rvs => ?_⟩
  have rvs : VRs M ags1 (exs O ags1 W) H1 ds vs := rvs
  split at h1
  · rename_i hz
    refine ⟨by rw [rvs.length, ← SZ_eq]; exact hz, fun p hp => ?_⟩
    exact h1 _ _ (Ext.upd hp) (r1.upd hp) _ (RelM.ofF (RelF.back e1 r1 (RelF.newL r1 hp rvs)))
  · exact h1.elim
theorem e_dct0 {m : Mo} : PE X (.Dict [] [] pos) (tE G M Wx m .dct0) := by
  refine PE.imp pe_dnewK fun σV H Q h => ?_
  obtain ⟨O, ags, W, σ, S, sit, h⟩ := h
  simp only [evE] at h
  intro p hp
  refine h _ _ (Ext.upd hp) (sit.sto.upd hp) _ (RelM.ofF (.inr ⟨p, rfl, hp, sit.sto.nex hp, [], rfl, .inl ⟨[], upd_same⟩, .inl ⟨[], .inl upd_same, rfl, rfl, fun _ h => nomatch h⟩⟩))

theorem upd_two (H : Hp) (p : Addr) (a b : HO) : upd (upd H p a) p b = upd H p b := by
  funext q
  by_cases e : q = p
  · subst e; rw [upd_same, upd_same]
  · rw [upd_ne e, upd_ne e, upd_ne e]
theorem lit_val {d : D} {c : Const} (h : litB d c = true) : ∃ v, isOb d = false ∧ (∀ {X : Cx} {j : Nat} {pos : Pos}, PE X (.Constant c j pos) (tC v)) ∧ ∀ ags Ex H, VR M ags Ex H d v := by
  unfold litB at h
  split at h
  · exact ⟨.non, rfl, pe_non, fun _ _ _ => rfl⟩
  · rename_i b c
    have e : b = c := by simpa using h
    subst e
    exact ⟨.bl b, rfl, pe_bl, fun _ _ _ => rfl⟩
  · rename_i b c
    have e : b = c := by simpa using h
    subst e
    exact ⟨.int b, rfl, pe_int, fun _ _ _ => rfl⟩
  · rename_i x y
    simp only [Bool.and_eq_true, beq_iff_eq, goodB, decide_eq_true_eq, List.all_eq_true] at h
    obtain ⟨e, h1, h2⟩ := h
    subst e
    exact ⟨_, rfl, pe_str, fun _ _ _ => ⟨rfl, by rw [sizeLine_eq]; exact h1, fun c hc => by simpa using h2 c hc⟩⟩
  · cases h
theorem e_dlit {x : List Nat} {y : Str} {d : D} {k : Const} {j1 j2 : Nat} {p1 p2 : Pos} {m : Mo} (hy : y = ⟨x.toArray⟩) (hx : goodB x = true) (hd : litB d k = true) : PE X (.Dict [some (.Constant (.str y) j1 p1)] [.Constant k j2 p2] pos) (tE G M Wx m (.dlit x d)) := by
  subst hy
  obtain ⟨v, hob, pv, hv⟩ := lit_val (M := M) hd
  have gx : Good x := by
    simp only [goodB, Bool.and_eq_true, decide_eq_true_eq, List.all_eq_true] at hx
    exact ⟨by rw [sizeLine_eq]; exact hx.1, fun c hc => by simpa using hx.2 c hc⟩
  refine PE.imp (pe_disp (pps_cons pe_str pv pps_nil) rfl rfl (by simp) (by show 1 ≤ 15; decide)) fun σV H Q h => ?_
  obtain ⟨O, ags, W, σ, S, sit, h⟩ := h
  simp only [evE] at h
  intro p hp
  refine ⟨upd_same, [(.inr ⟨x.toArray⟩, v)], rfl, by show 1 ≤ 15; decide, ?_⟩
  rw [upd_two]
  show Q (.ref p) (upd H p (.dK [(.inr ⟨x.toArray⟩, v)]))
  refine h _ _ (Ext.upd hp) (sit.sto.upd hp) _ (RelM.ofF (.inr ⟨p, rfl, hp, sit.sto.nex hp, [v], VRs.one (hv _ _ _), .inl ⟨_, upd_same⟩, .inl ⟨_, .inl upd_same, ?_, rfl, fun q hq => ?_⟩⟩))
  · show [D.str x] = [D.str (⟨x.toArray⟩ : Str).cps.toList]
    rw [str_eq]
  · cases List.mem_singleton.mp hq
    show Good (⟨x.toArray⟩ : Str).cps.toList
    rw [str_eq]; exact gx

/-! ### places -/
theorem VRs.atI {ags : List Addr} {Ex : Adr} {H : Hp} {ds : List D} {vs : List V} {i : Int} {d : D} (h : VRs M ags Ex H ds vs) (e : L2.atI ds i = some d) : ∃ v, L2.atI vs i = some v ∧ VR M ags Ex H d v := by
  unfold L2.atI at e ⊢
  rw [h.length]
  cases q : ixN ds.length i with
  | none => rw [q] at e; cases e
  | some j =>
    rw [q] at e
    exact h.get e
theorem atI_map {α β : Type} (f : α → β) {xs : List α} {i : Int} {x : α} (e : L2.atI xs i = some x) : L2.atI (xs.map f) i = some (f x) := by
  unfold L2.atI at e ⊢
  rw [List.length_map]
  cases q : ixN xs.length i with
  | none => rw [q] at e; cases e
  | some j =>
    rw [q] at e
    have e' : xs[j]? = some x := e
    show (xs.map f)[j]? = some (f x)
    rw [List.getElem?_map, e']; rfl
theorem atI_mem {α : Type} {xs : List α} {i : Int} {x : α} (e : L2.atI xs i = some x) : x ∈ xs := by
  unfold L2.atI at e
  cases q : ixN xs.length i with
  | none => rw [q] at e; cases e
  | some j =>
    rw [q] at e
    exact List.mem_of_getElem? e
theorem plain_ix (h : notSlice b = true) : PlainIx b := by
  intro o i
  cases b <;> first | rfl | cases h
def rDG : R2 := fun x y H Q => ∃ a v, x = .ref a ∧ DGet H a y (some v) ∧ Q v H
theorem ix_dict (hu : X.A.units + 1 < cLine) : IxR X rDG := by
  intro value slice pins s σ H x y v u Q I rx ry h hs
  obtain ⟨a, z, rfl, g, q⟩ := h
  cases rx
  have hT := dict_typeIs I g
  unfold subscriptTail
  refine wpAny_bind ?_
  rw [getitemInPython_of_ne hT.not_modules]
  refine wpAny_bind (wpAny_specialOf hT PySem.F.slot_dict_getitem.lookup ?_)
  have fin : wpAny (model X.prog X.w) X.A (subscripted slice false (.ref a) u) (fun r s₃ => wpAny (model X.prog X.w) X.A (letTemporaryGo value (.ref a) r >>= fun _ => pure r) (EP X pins σ Q) X.xe s₃) X.xe s := by
    rw [hs]
    exact wpAny_operating (d_getItem hu I g ry fun w' s' I' rw' => wpAny_bind (wpAny_letTemporaryGo (wpAny_pure ⟨z, H, I', rw', q⟩)))
  first
    | exact wpAny_pure (wpAny_bind fin)
    | exact wpAny_bind (wpAny_pure (wpAny_bind fin))
    | exact wpAny_bind fin
/-- the reading of a place in a dict -/
theorem dget_ok {O : Adr} {ags : List Addr} {W : Nat → Option Addr} {H : Hp} {ks ws : List D} {k d : D} {a : Addr} {vs : List V} {w : V} {Q : VK} (dr : DR H a ks vs) (hw : VRs M ags (exs O ags W) H ws vs) (ry : RelN M O ags W H k w)
    (hf : (if kmOk ks k = true then dget ks ws k else none) = some d) (q : ∀ u, VR M ags (exs O ags W) H d u → Q u H) : rDG (.ref a) w H Q := by
  split at hf
  · rename_i hc
    have hx : ∃ Ex, VR M ags Ex H k w := by
      rcases ry with h | ⟨b, E, rfl, _, q⟩
      · exact ⟨_, h⟩
      · exfalso
        unfold kmOk at hc
        rw [Bool.and_eq_true] at hc
        cases k <;> first | exact q | cases hc.1
    obtain ⟨Ex, hx⟩ := hx
    obtain ⟨o, g, ho⟩ := dr.get hw hc hx
    rw [hf] at ho
    obtain ⟨v, rfl, rv⟩ := ho
    exact ⟨a, v, rfl, g, q v rv⟩
  · cases hf
/-- the reading of a place -/
theorem sub_ok {O : Adr} {ags : List Addr} {W : Nat → Option Addr} {H : Hp} {x y d : D} {S : List D} {v w : V} {Q : VK} (hK : M.K = X.K) (r : SR M O ags W H S) (rx : RelN M O ags W H x v) (ry : RelN M O ags W H y w) (hf : subD x y S = some d)
    (q : ∀ u, VR M ags (exs O ags W) H d u → Q u H) : rIx X.K v w H Q ∨ rDG v w H Q := by
  unfold subD at hf
  split at hf
  · rename_i xs i
    obtain ⟨a, vs, rfl, ha, hv⟩ := rx.lst
    cases ry.int
    obtain ⟨u, e, ru⟩ := hv.atI hf
    exact .inl (.inl ⟨a, vs, i, u, rfl, rfl, .inl (.inl ha), e, q u ru⟩)
  · rename_i xs i
    obtain ⟨a, vs, rfl, ha, hv⟩ := rx.tup
    cases ry.int
    obtain ⟨u, e, ru⟩ := hv.atI hf
    exact .inl (.inr (.inl ⟨a, vs, i, u, rfl, rfl, .inl (.inl ha), e, q u ru⟩))
  · rename_i xs i
    obtain ⟨rfl, g⟩ := rx.str
    cases ry.int
    obtain ⟨c, e, rfl⟩ := Option.map_eq_some_iff.mp hf
    have hc := g.ok c (atI_mem e)
    refine .inl (.inr (.inr ⟨_, i, c, rfl, rfl, by rw [str_len]; exact g.len, by rw [str_eq]; exact e, q _ ⟨rfl, ?_, ?_⟩⟩))
    · rw [sizeLine_eq]; show 1 ≤ _; omega
    · intro c' h; cases List.mem_singleton.mp h; exact hc
  · rename_i ns i
    obtain ⟨a, rfl, ha⟩ := rx.scr
    cases ry.int
    obtain ⟨n, e, rfl⟩ := Option.map_eq_some_iff.mp hf
    rw [hK] at ha
    exact .inl (.inl ⟨a, _, i, .int n, rfl, rfl, ha, atI_map V.int e, q _ rfl⟩)
  · rename_i ks ws k
    obtain ⟨a, vs, rfl, dr, hw⟩ := rx.dct
    exact .inr (dget_ok dr hw ry hf q)
  · rename_i n k
    obtain ⟨a, ea, rfl⟩ := rx.ref
    split at hf
    · rename_i xs e
      obtain ⟨vs, ha, hv⟩ := r.at_ _ _ a e ea
      split at hf
      · cases ry.int
        obtain ⟨u, e, ru⟩ := hv.atI hf
        exact .inl (.inl ⟨a, vs, _, u, rfl, rfl, .inl (.inl ha), e, q u ru⟩)
      · cases hf
    · rename_i ks ws e
      obtain ⟨vs, hw, _, dr⟩ := r.at_ _ _ a e ea
      exact .inr (dget_ok dr hw ry hf q)
    · cases hf
  · cases hf
theorem e_sub {m : Mo} (Z : Cz z X M G Wx) (ha : PE X a (tE G M Wx .bor ca)) (hb : PE X b (tE G M Wx .now cb)) (hs : notSlice b = true) (hm : m ≠ .frs) : PE X (.Subscript a b pos) (tE G M Wx m (.sub ca cb)) := by
  refine PE.imp (pe_ix (ix_seq.or (ix_dict (by have := Z.un; omega))) ha hb (plain_ix hs)) fun σV H Q h => ?_
  obtain ⟨O, ags, W, σ, S, sit, h⟩ := h
  simp only [evE] at h
  refine two_ops sit h fun x y S2 ags2 H2 v w e2 r2 rv rw' h2 => ?_
  cases hf : subD x y S2 with
  | none => rw [hf] at h2; exact h2.elim
  | some f =>
    rw [hf] at h2
    refine sub_ok Z.K r2 rv.n rw' hf fun u ru => h2.ok r2 u ?_
    cases m with
    | now => exact .inl ru
    | bor => exact .inl ru
    | cap => exact ru
    | frs => exact absurd rfl hm
theorem e_rev {m : Mo} {k : Nat} {p1 p2 p3 : Pos} (ha : PE X a (tE G M Wx .now ca)) : PE X (.Subscript a (.Slice none none (some (.UnaryOp .USub (.Constant (.int 1) k p1) p2)) p3) pos) (tE G M Wx m (.rev ca)) := by
  refine PE.imp (pe_revA ha) fun σV H Q h => ?_
  obtain ⟨O, ags, W, σ, S, sit, h⟩ := h
  simp only [evE] at h
  refine ⟨O, ags, W, σ, S, sit, (Pst.bnd h).imp fun x S1 ags1 H1 e1 r1 h1 v rv => ?_⟩
  unfold revD at h1
  split at h1
  · rename_i xs
    obtain ⟨a, vs, rfl, ha, hv⟩ := rv.lst
    refine .inl ⟨a, vs, rfl, .inl (.inl ha), fun p hp => h1 _ _ (Ext.upd hp) (r1.upd hp) _ (RelM.ofF (RelF.back e1 r1 (RelF.newL r1 hp ?_)))⟩
    have rv : ∀ {ds : List D} {vs : List V}, VRs M ags1 (exs O ags1 W) H1 ds vs → VRs M ags1 (exs O ags1 W) H1 ds.reverse vs.reverse := by
      intro ds
      induction ds with
      | nil => intro vs h; cases (show _ = [] from h); exact rfl
      | cons d ds ih =>
        intro vs h
        obtain ⟨v, r, rfl, q1, q2⟩ := h
        rw [List.reverse_cons, List.reverse_cons]
        exact (ih q2).append (VRs.one q1)
    exact rv hv
  · rename_i xs
    obtain ⟨rfl, g⟩ := rv.str
    refine .inr ⟨_, rfl, by rw [str_len]; exact g.len, ?_⟩
    rw [str_eq]
    exact h1.ok r1 _ (RelM.ofF (.inl ⟨rfl, rfl, by rw [List.length_reverse]; exact g.len, fun c hc => g.ok c (List.mem_reverse.mp hc)⟩))
  · exact h1.elim

/-! ### slices -/
theorem o_none : PO X none (tO G M Wx .none) := by
  have p : PO X none tNoPart := po_none
  refine ⟨fun pins s σV H Q I h => p.run pins s σV H Q I ?_⟩
  obtain ⟨O, ags, W, σ, S, sit, h⟩ := h
  simp only [evO] at h
  exact h.ok sit.sto
theorem o_some (he : PE X e (tE G M Wx .now ce)) : PO X (some e) (tO G M Wx (.some ce)) := by
  have p := po_some he
  refine ⟨fun pins s σV H Q I h => p.run pins s σV H Q I ?_⟩
  obtain ⟨O, ags, W, σ, S, sit, h⟩ := h
  simp only [evO] at h
  refine ⟨O, ags, W, σ, S, sit, (Pst.bnd h).imp fun x S1 ags1 H1 e1 r1 h1 v rv => ?_⟩
  cases x with
  | int i => cases rv.int; exact ⟨i, rfl, h1.ok r1⟩
  | _ => exact h1.elim
theorem VRs.cut {ags : List Addr} {Ex : Adr} {H : Hp} {ds : List D} {vs : List V} (l u : Option Int) (h : VRs M ags Ex H ds vs) : VRs M ags Ex H (cut ds l u) (cutV vs l u) := by
  unfold PV.cut cutV
  rw [h.length]
  exact (h.drop _).take _
theorem cut_whole {α : Type} {xs : List α} {l u : Option Int} (h : HT.sIx xs.length 0 l = 0 ∧ HT.sIx xs.length xs.length u = xs.length) : cut xs l u = xs := by
  unfold cut
  rw [h.1, h.2]
  simp
theorem cut_map {α β : Type} (f : α → β) (xs : List α) (l u : Option Int) : cut (xs.map f) l u = (cut xs l u).map f := by
  unfold cut
  rw [List.length_map, List.map_take, List.map_drop]
theorem cut_len {α : Type} (xs : List α) (l u : Option Int) : (cut xs l u).length ≤ xs.length := by
  unfold cut
  rw [List.length_take, List.length_drop]
  omega
theorem e_sli {lo hi : Option Expr} {cl ch : Xpo} {p2 : Pos} {m : Mo} (Z : Cz z X M G Wx) (ha : PE X a (tE G M Wx .bor ca)) (hl : PO X lo (tO G M Wx cl)) (hh : PO X hi (tO G M Wx ch)) : PE X (.Subscript a (.Slice lo hi none p2) pos) (tE G M Wx m (.sli ca cl ch)) := by
  refine PE.imp (pe_slice ((sl_list.or sl_tupA).or sl_str) ha hl hh) fun σV H Q h => ?_
  obtain ⟨O, ags, W, σ, S, sit, h⟩ := h
  simp only [evE] at h
  refine ⟨O, ags, W, σ, S, sit, (Pst.bnd h).imp fun x S1 ags1 H1 e1 r1 h1 v rv => ⟨O, ags1, W, σ, S1, sit.ext e1 r1, (Pst.bnd h1).imp fun l S2 ags2 H2 e2 r2 h2 =>
    ⟨O, ags2, W, σ, S2, (sit.ext e1 r1).ext e2 r2, (Pst.bnd h2).imp fun u S3 ags3 H3 e3 r3 h3 => ?_⟩⟩⟩
  have rv3 := RelB.ext e3 (RelB.ext e2 rv)
  have e13 : Ext ags H ags3 H3 := (e1.trans e2 r1).trans e3 r2
  unfold sliD at h3
  split at h3
  · rename_i xs
    obtain ⟨a, vs, rfl, ha, hv⟩ := rv3.lst
    exact .inl (.inl ⟨a, vs, rfl, .inl (.inl ha), fun p hp => h3 _ _ (Ext.upd hp) (r3.upd hp) _ (RelM.ofF (RelF.back e13 r3 (RelF.newL r3 hp (hv.cut l u))))⟩)
  · rename_i xs
    have vt := rv3.tupV
    obtain ⟨a, vs, rfl, ha, hv⟩ := rv3.tup
    refine .inl (.inr ⟨a, vs, rfl, .inl (.inl ha), fun hw => ?_, fun hw p hp => h3 _ _ (Ext.upd hp) (r3.upd hp) _ (RelM.ofF (RelF.back e13 r3 (RelF.newT r3 hp (hv.cut l u))))⟩)
    rw [hv.length] at hw
    rw [cut_whole hw] at h3
    exact h3.ok r3 _ (RelM.ofF (.inl ⟨rfl, vt⟩))
  · rename_i xs
    obtain ⟨rfl, g⟩ := rv3.str
    refine .inr ⟨_, rfl, by rw [str_len]; exact g.len, h3.ok r3 _ (RelM.ofF (.inl ⟨rfl, ?_, ?_, ?_⟩))⟩
    · unfold cutS PV.cut
      rw [str_len, str_eq]
    · exact Nat.le_trans (cut_len _ _ _) g.len
    · intro c hc
      unfold PV.cut at hc
      exact g.ok c (List.mem_of_mem_drop (List.mem_of_mem_take hc))
  · rename_i ns
    obtain ⟨a, rfl, ha⟩ := rv3.scr
    rw [Z.K] at ha
    refine .inl (.inl ⟨a, _, rfl, ha, fun p hp => h3 _ _ (Ext.upd hp) (r3.upd hp) _ (RelM.ofF (RelF.back e13 r3 (RelF.newL r3 hp ?_)))⟩)
    have e : cutV (ns.map V.int) l u = (PV.cut ns l u).map V.int := cut_map V.int ns l u
    rw [e]
    exact VRs.ints _
  · exact h3.elim

theorem DR.isD {a : Addr} {ks : List D} {vs : List V} {H : Hp} (h : DR H a ks vs) : IsD H a := by
  rcases h with ⟨kvs, h, _⟩ | ⟨kvs, h, _⟩
  · exact .inl ⟨kvs, h⟩
  · exact .inr ⟨kvs, h⟩
theorem VR.flat {ags ags' : List Addr} {Ex Ex' : Adr} {H H' : Hp} {d : D} {v : V} (hf : flatD d = true) (h : VR M ags Ex H d v) : VR M ags' Ex' H' d v := by
  cases d <;> first | exact h | cases hf
theorem flat_ob {d : D} (h : flatD d = true) : isOb d = false := by cases d <;> first | rfl | cases h
theorem RelN.flat {O : Adr} {ags ags' : List Addr} {W : Nat → Option Addr} {Ex' : Adr} {H H' : Hp} {d : D} {v : V} (hf : flatD d = true) (h : RelN M O ags W H d v) : VR M ags' Ex' H' d v := by
  rcases h with h | ⟨b, E, rfl, _, q⟩
  · exact VR.flat hf h
  · cases d <;> first | exact q.elim | cases hf
/-- d.get(k, v) -/
theorem e_dgt {k v : Expr} {ck cv : Xp} {apos : Pos} {m : Mo} (hu : X.A.units + 1 < cLine) (ha : PE X a (tE G M Wx .bor ca)) (hk : PE X k (tE G M Wx .cap ck)) (hv : PE X v (tE G M Wx .now cv)) (hm : M2 X a "get" apos k v pos) (hne : m ≠ .frs) : PE X (.Call (.Attribute a "get" apos) [k, v] [] pos) (tE G M Wx m (.dgt ca ck cv)) := by
  refine PE.imp (pe_dget2 hu ha hk hv hm) fun σV H Q h => ?_
  obtain ⟨O, ags, W, σ, S, sit, h⟩ := h
  simp only [evE] at h
  refine ⟨O, ags, W, σ, S, sit, (Pst.bnd h).imp fun x S1 ags1 H1 e1 r1 h1 w rv => ?_⟩
  cases x with
  | dct ks ws =>
    obtain ⟨l, vs, rfl, dr, hw⟩ := rv.dct
    refine ⟨l, rfl, dr.isD, O, ags1, W, σ, S1, sit.ext e1 r1, (Pst.bnd h1).imp fun y S2 ags2 H2 e2 r2 h2 u ru => ?_⟩
    refine ⟨O, ags2, W, σ, S2, (sit.ext e1 r1).ext e2 r2, (Pst.bnd h2).imp fun z S3 ags3 H3 e3 r3 h3 t rt => ?_⟩
    have rv3 := RelB.ext e3 (RelB.ext e2 rv)
    obtain ⟨l', vs', e', dr3, hw3⟩ := rv3.dct
    cases e'
    have ru3 : VR M ags3 (exs O ags3 W) H3 y u := VR.le e3.le _ _ ru
    unfold dgtD at h3
    split at h3
    · rename_i hc
      obtain ⟨o, g, ho⟩ := dr3.get hw3 hc.1 ru3
      refine ⟨o, g, ?_⟩
      have e13 : Ext ags H ags3 H3 := (e1.trans e2 r1).trans e3 r2
      cases hg : dget ks ws y with
      | none =>
        rw [hg] at ho h3
        have ho : o = none := ho
        subst ho
        have h3 : Pst M O W Wx σV ags3 H3 (R.ok z S3) (fun d S' ags' H' => ∀ v, RelM m M O H ags' W H' d v → Q v H') := h3
        exact h3.ok r3 t (RelM.ofF (.inl ⟨flat_ob hc.2, RelN.flat hc.2 rt⟩))
      | some d =>
        rw [hg] at ho h3
        obtain ⟨v', rfl, rv'⟩ := ho
        refine h3.ok r3 v' ?_
        cases m with
        | now => exact .inl rv'
        | bor => exact .inl rv'
        | cap => exact rv'
        | frs => exact absurd rfl hne
    · exact h3.elim
  | _ => exact h1.elim

/-! ### shared objects -/
theorem Ext.pub {O : Adr} {ags ags1 : List Addr} {W : Nat → Option Addr} {H H1 : Hp} {q : Addr} (e1 : Ext ags H ags1 H1) (hq : H q = none) : Ext ags H (ags1 ++ [q]) H1 :=
  ⟨e1.pre.trans (List.prefix_append _ _), e1.same, fun a ha => by
    rcases List.mem_append.mp ha with ha | ha
    · exact e1.new a ha
    · cases List.mem_singleton.mp ha; exact .inr hq⟩
theorem SR.pub {O : Adr} {ags1 : List Addr} {W : Nat → Option Addr} {H1 : Hp} {S1 : List D} {d : D} {q : Addr} (r1 : SR M O ags1 W H1 S1) (hd : obI d = true) (nq : ¬ exs O ags1 W q) (own : OwnR M ags1 (fun a => exs O ags1 W a ∨ a = q) H1 d q) : SR M O (ags1 ++ [q]) W H1 (S1 ++ [d]) := by
  have nq' : ¬ O q ∧ q ∉ ags1 ∧ ∀ j, W j ≠ some q := ⟨fun z => nq (.inl z), fun z => nq (.inr (.inl z)), fun j z => nq (.inr (.inr ⟨j, z⟩))⟩
  have tl : Tl ags1 H1 (ags1 ++ [q]) (exs O (ags1 ++ [q]) W) H1 := ⟨List.prefix_append _ _, fun a vs h => ⟨h, fun z => by
    rcases z with z | z | ⟨j, z⟩
    · exact (r1.oo a z).tup h
    · rcases List.mem_append.mp z with z | z
      · exact (r1.aob z).tup h
      · cases List.mem_singleton.mp z; exact own.ob.tup h
    · exact (r1.wo j a z).tup h⟩⟩
  refine ⟨by rw [List.length_append, List.length_append, r1.len]; rfl, ?_, fun n e a k1 k2 => ?_, fun a ha => ?_, fun j a hw => ?_, r1.on, r1.wo, r1.oo, fun e he => ?_⟩
  · rw [List.nodup_append]
    refine ⟨r1.nd, by simp, fun a ha c hc => ?_⟩
    cases List.mem_singleton.mp hc
    intro z; subst z
    exact nq'.2.1 ha
  · by_cases hn : n < S1.length
    · rw [List.getElem?_append_left hn] at k1
      rw [List.getElem?_append_left (by rw [r1.len]; exact hn)] at k2
      exact OwnR.imm tl (r1.fl e (List.mem_of_getElem? k1)) rfl (r1.at_ n e a k1 k2)
    · rw [List.getElem?_append_right (by omega)] at k1
      rw [List.getElem?_append_right (by rw [r1.len]; omega)] at k2
      have z1 : n - S1.length = 0 := by
        have := (List.getElem?_eq_some_iff.mp k1).1
        simp at this
        omega
      rw [z1] at k1
      rw [r1.len, z1] at k2
      cases k1; cases k2
      exact OwnR.imm tl hd rfl own
  · rcases List.mem_append.mp ha with ha | ha
    · exact r1.ap a ha
    · cases List.mem_singleton.mp ha; exact nq'.1
  · obtain ⟨k1, k2, k3⟩ := r1.wn j a hw
    refine ⟨k1, fun z => ?_, k3⟩
    rcases List.mem_append.mp z with z | z
    · exact k2 z
    · cases List.mem_singleton.mp z; exact nq'.2.2 j hw
  · rcases List.mem_append.mp he with he | he
    · exact r1.fl e he
    · cases List.mem_singleton.mp he; exact hd
theorem e_pub {m : Mo} (he : PE X e (tE G M Wx .frs ce)) : PE X e (tE G M Wx m (.pub ce)) := by
  refine PE.imp he fun σV H Q h => ?_
  obtain ⟨O, ags, W, σ, S, sit, h⟩ := h
  simp only [evE] at h
  refine ⟨O, ags, W, σ, S, sit, ?_⟩
  cases hx : evE G ce σ S with
  | stuck => rw [hx] at h; exact h
  | exc e' S' => rw [hx] at h; exact h
  | ok d S1 =>
    rw [hx] at h
    intro ags1 H1 e1 r1 v rf
    have h : Pst M O W Wx σV ags H (if obI d = true then R.ok (.ref S1.length) (S1 ++ [d]) else .stuck) (fun d S' ags' H' => ∀ v, RelM m M O H ags' W H' d v → Q v H') := h
    split at h
    · rename_i hd
      rcases rf with ⟨hno, _⟩ | ⟨q, rfl, hq, nq, own⟩
      · cases d <;> first | (cases hd; done) | (cases hno; done)
      · refine h (ags1 ++ [q]) H1 (Ext.pub (O := O) (W := W) e1 hq) (r1.pub hd nq own) _ (RelM.ofF (.inl ⟨rfl, q, ?_, rfl⟩))
        rw [← r1.len, List.getElem?_append_right (Nat.le_refl _), Nat.sub_self]
        rfl
    · exact h.elim
theorem e_rd (he : PE X e (tE G M Wx .bor ce)) : PE X e (tE G M Wx .now (.rd ce)) := by
  refine PE.imp he fun σV H Q h => ?_
  obtain ⟨O, ags, W, σ, S, sit, h⟩ := h
  simp only [evE] at h
  refine ⟨O, ags, W, σ, S, sit, (Pst.bnd h).imp fun x S1 ags1 H1 e1 r1 h1 v rv => ?_⟩
  have rv : RelB M O ags1 W H1 x v := rv
  cases x with
  | ref n =>
    obtain ⟨a, ea, rfl⟩ := rv.ref
    cases hs : S1[n]? with
    | none =>
      have e : rdD S1 (.ref n) = none := hs
      rw [e] at h1; exact h1.elim
    | some d =>
      have e : rdD S1 (.ref n) = some d := hs
      rw [e] at h1
      exact h1.ok r1 _ (.inr ⟨a, _, rfl, fun _ z => z, r1.at_ n d a hs ea⟩)
  | _ => exact h1.ok r1 _ rv.n

/-! ### displays of dicts -/
theorem e_dctT {m : Mo} : PE X (.Dict [] [] pos) (tE G M Wx m .dctT) := by
  refine PE.imp pe_dnewT fun σV H Q h => ?_
  obtain ⟨O, ags, W, σ, S, sit, h⟩ := h
  simp only [evE] at h
  intro p hp
  refine h _ _ (Ext.upd hp) (sit.sto.upd hp) _ (RelM.ofF (.inr ⟨p, rfl, hp, sit.sto.nex hp, [], rfl, .inr ⟨[], upd_same⟩, .inr ⟨[], .inl upd_same, rfl, rfl, fun _ h => nomatch h⟩⟩))
end
end PV

/-! ## PV: built-ins, kinds, methods, tests, calls, targets -/
namespace PV
open PySem PySem.Spec PyProof.Rows L2

section
variable {X : Cx} {M : Nm} {G : PV.Env} {Wx : WX} {z : Sx} {pos p : Pos} {a b c e : Expr} {es : List Expr} {ca cb cc ce : Xp} {ces : Xps}
theorem gl_of (Z : Cz z X M G Wx) {x : Str} (hg : glB z.sc x = true) : Gl X x := by
  unfold glB at hg
  show X.env.scope.names.lookup x = _
  rw [Z.env]
  simpa using hg
theorem boot_bi (b : BI) : bootBuiltins (biN b) = some (biV b) := by cases b <;> decide +kernel
theorem e_bi {b : BI} {m : Mo} (Z : Cz z X M G Wx) (hg : glB z.sc (biN b) = true) (ha : PA X (e :: es) (tA G M Wx false ces)) (hs : notStar e = true) (hpl : (backTo pos (starEach es X.env)).any (·.1) = false) :
    PE X (.Call (.Name (biN b) p) (e :: es) [] pos) (tE G M Wx m (.bi b ces)) := by
  have hm : X.mg (biN b) = none := Z.blt _ (by cases b <;> decide)
  have op := op_bi (M := M) Z.hd Z.dig Z.K Z.calm Z.gd Z.un b
  have main : PE X (.Call (.Name (biN b) p) (e :: es) [] pos) (tCB (rBI M b) (tA G M Wx false ces)) := by
    have hv := boot_bi b
    cases b <;> first
      | exact pe_callB op (gl_of Z hg) hm hv ha (by decide) (by decide) (star_of hs) hpl
      | exact pe_callTy op (gl_of Z hg) hm hv ha (by decide) (by decide) (star_of hs) hpl
  refine PE.imp main fun σV H Q h => ?_
  obtain ⟨O, ags, W, σ, S, sit, h⟩ := h
  simp only [evE] at h
  refine ⟨O, ags, W, σ, S, sit, (Pst.bnd h).imp fun ds S1 ags1 H1 e1 r1 h1 vs rvs => ?_⟩
  cases hf : biD b ds with
  | none => rw [hf] at h1; exact h1.elim
  | some f =>
    rw [hf] at h1
    exact ⟨O, ags1, W, S1, ds, f, rvs, hf, r1, fun v H' e2 r2 rf => h1 _ _ e2 r2 v (RelM.ofF (RelF.back e1 r1 rf))⟩
theorem e_rpr {m : Mo} (Z : Cz z X M G Wx) (hg : glB z.sc "repr" = true) (ha : PE X a (tE G M Wx .now ca)) (hs : notStar a = true) : PE X (.Call (.Name "repr" p) [a] [] pos) (tE G M Wx m (.rpr ca)) := by
  have hm : X.mg "repr" = none := Z.blt _ (by decide)
  have op := op_rpr (M := M) Z.gd Z.un
  have main : PE X (.Call (.Name "repr" p) [a] [] pos) (tCB (rRp M) (tCons (tE G M Wx .now ca) tNil)) := pe_callB op (gl_of Z hg) hm (boot_bi .repr) (pa_cons ha pa_nil (star_of hs)) (by decide) (by decide) (star_of hs) rfl
  refine PE.imp main fun σV H Q h => ?_
  obtain ⟨O, ags, W, σ, S, sit, h⟩ := h
  simp only [evE] at h
  refine ⟨O, ags, W, σ, S, sit, (Pst.bnd h).imp fun d S1 ags1 H1 e1 r1 h1 v rv => ?_⟩
  cases hf : biD .repr [deepD S1 d] with
  | none => rw [hf] at h1; exact h1.elim
  | some f =>
    rw [hf] at h1
    refine ⟨ags1, deepD S1 d, v, f, rfl, (show RelN M O ags1 W H1 d v from rv).d.deep r1, hf, fun y ey gy => ?_⟩
    subst ey
    exact h1.ok r1 _ (RelM.ofF (.inl ⟨rfl, rfl, gy⟩))
theorem biD_nil (b : BI) : biD b [] = none := by cases b <;> rfl
theorem e_never {e : Expr} {m : Mo} {c : Xp} (h : ∀ σ S, evE G c σ S = .stuck) : PE X e (tE G M Wx m c) := by
  refine ⟨fun pins s σV H Q I hh => ?_⟩
  obtain ⟨O, ags, W, σ, S, sit, hh⟩ := hh
  rw [h] at hh
  exact hh.elim
theorem t_never {e : Expr} {c : Xp} (h : ∀ σ S, evT G c σ S = .stuck) : PT X e (tT G M Wx c) := by
  refine ⟨fun pins s σV H Q I hh => ?_⟩
  obtain ⟨O, ags, W, σ, S, sit, hh⟩ := hh
  rw [h] at hh
  exact hh.elim

/-! ### isinstance -/
def tyS : Ty → String
  | .int => "int" | .bool => "bool" | .str => "str" | .lst => "list" | .tup => "tuple" | .dct => "dict" | .cls _ => ""
def tyOf : D → String
  | .non => "NoneType" | .bl _ => "bool" | .int _ => "int" | .str _ => "str" | .lst _ => "list" | .tup _ => "tuple" | .dct _ _ => "dict" | _ => ""
theorem kit_rel {pins : List (Addr × Obj)} {σ : L2.St} {s : Shared} {O : Adr} {ags : List Addr} {W : Nat → Option Addr} {H : Hp} {d : D} {v : V} {u : Value} {t : Ty} {k : Bool} (I : Inv X pins σ H s) (rx : RelV v u) (h : RelN M O ags W H d v) (e : tyD t d = some k) :
    ∃ P : Heap → Prop, PySem.W.KitX X.K u (.type (tyOf d)) P ∧ P s.heap ∧ u ≠ .builtin "__main__.__loader__#opaque" := by
  cases d with
  | non => cases h.non; exact kit_of I rx (.base .non)
  | bl b => cases h.bl; exact kit_of I rx (.base (.bl b))
  | int b => cases h.int; exact kit_of I rx (.base (.int b))
  | str b => obtain ⟨rfl, _⟩ := h.str; exact kit_of I rx (.base (.str _))
  | lst ds => obtain ⟨a, vs, rfl, ha, _⟩ := h.lst; exact kit_of I rx (.base (.lst ha))
  | tup ds => obtain ⟨a, vs, rfl, ha, _⟩ := h.tup; exact kit_of I rx (.base (.tup ha))
  | dct ks ws =>
    obtain ⟨a, vs, rfl, ha, _⟩ := h.dct
    rcases ha with ⟨kvs, ha | ⟨o, ha⟩, _⟩ | ⟨kvs, ha | ⟨o, ha⟩, _⟩
    · exact kit_of I rx (.base (.dK ha))
    · exact kit_of I rx (.fDict ha)
    · exact kit_of I rx (.base (.dT ha))
    · cases rx
      obtain ⟨_, hgd, hx, _⟩ := I.frzT ha
      exact ⟨_, PySem.W.kitx_dict, ⟨o, hgd, hx.1⟩, fun z => nomatch z⟩
  | _ => exfalso; cases t <;> cases e
theorem kit_ans2 {K : PySem.W.Frag} {d : D} {t : Ty} {k : Bool} (ht : tyB t = true) (e : tyD t d = some k) : PySem.W.kitOne K (.type (tyOf d)) (.type (tyS t)) = some k := by
  have go : ∀ {x y : String} {r : Bool}, kitB x y = some r → r = k → PySem.W.kitOne K (.type x) (.type y) = some k := fun h hr => hr ▸ kit_ty h
  cases t <;> cases d <;> first
    | (cases ht; done)
    | (cases e; done)
    | (have e' : true = k := Option.some.inj e; exact go (r := true) (by dsimp only [tyOf, tyS]; decide +kernel) e')
    | (have e' : false = k := Option.some.inj e; exact go (r := false) (by dsimp only [tyOf, tyS]; decide +kernel) e')
def rIs (M : Nm) (t : Ty) : List V → Hp → VK → Prop := fun vs H Q => ∃ O ags W d v k, vs = [v, .ty (tyS t)] ∧ RelN M O ags W H d v ∧ tyD t d = some k ∧ Q (.bl k) H
theorem call_is {t : Ty} (ht : tyB t = true) : CallR X (.builtin "isinstance") (rIs M t) := by
  intro pins s σ H xs us Q I r h
  obtain ⟨O, ags, W, d, v, k, rfl, hv, e, q⟩ := h
  obtain ⟨u1, u2, rfl, r1, r2⟩ := vals2 r
  cases (show u2 = Value.type (tyS t) from r2)
  obtain ⟨P, Zk, hp, hx⟩ := kit_rel I r1 hv e
  exact PySem.W.kia_one Zk I.kIn hp (kit_ans2 ht e) hx fun tk => ⟨.bl k, H, I.tok tk, rfl, q⟩
theorem boot_isi : bootBuiltins "isinstance" = some (.builtin "isinstance") := by decide +kernel
theorem boot_ty {t : Ty} (ht : tyB t = true) : bootBuiltins (tyN t) = some (.type (tyS t)) := by
  cases t <;> first | (cases ht; done) | decide +kernel
theorem e_isi {t : Ty} {m : Mo} {q : Pos} (Z : Cz z X M G Wx) (ht : tyB t = true) (hg : glB z.sc "isinstance" = true) (hg2 : glB z.sc (tyN t) = true) (ha : PE X a (tE G M Wx .now ca)) (hs : notStar a = true) :
    PE X (.Call (.Name "isinstance" p) [a, .Name (tyN t) q] [] pos) (tE G M Wx m (.isi ca t)) := by
  have pt : PE X (.Name (tyN t) q) (tC (.ty (tyS t))) := pe_bltn (gl_of Z hg2) (Z.blt _ (by cases t <;> first | (cases ht; done) | decide)) (boot_ty ht) rfl (by cases t <;> first | (cases ht; done) | decide) (by cases t <;> first | (cases ht; done) | decide)
  have args := pa_cons ha (pa_cons pt pa_nil (star_of rfl)) (star_of hs)
  refine PE.imp (pe_callB (call_is (M := M) ht) (gl_of Z hg) (Z.blt _ (by decide)) boot_isi args (by decide) (by decide) (star_of hs) (by rfl)) fun σV H Q h => ?_
  obtain ⟨O, ags, W, σ, S, sit, h⟩ := h
  simp only [evE] at h
  refine ⟨O, ags, W, σ, S, sit, (Pst.bnd h).imp fun x S1 ags1 H1 e1 r1 h1 v rv => ?_⟩
  cases hf : tyD t x with
  | none => rw [hf] at h1; exact h1.elim
  | some k =>
    rw [hf] at h1
    exact ⟨O, ags1, W, x, v, k, rfl, rv, hf, h1.ok r1 _ (RelM.ofF (.inl ⟨rfl, rfl⟩))⟩

/-! ### methods -/
theorem joinL_N (s : List Nat) : ∀ l, TL.joinL s l = joinN s l
  | [] => rfl
  | [_] => rfl
  | x :: y :: r => by unfold TL.joinL joinN; rw [joinL_N s (y :: r)]
theorem join_str (s : List Nat) (l : List (List Nat)) : Txt.join ⟨s.toArray⟩ (l.map fun x => (⟨x.toArray⟩ : Str)) = ⟨(joinN s l).toArray⟩ := by
  have e : Txt.join ⟨s.toArray⟩ (l.map fun x => (⟨x.toArray⟩ : Str)) = Str.join ⟨s.toArray⟩ (l.map fun x => (⟨x.toArray⟩ : Str)) := StrLaws.glued_eq_join _ _
  have e2 := TL.tl_join ⟨s.toArray⟩ (l.map fun x => (⟨x.toArray⟩ : Str))
  have e3 : (l.map fun x => (⟨x.toArray⟩ : Str)).map TL.tl = l := by
    rw [List.map_map]
    conv => rhs; rw [← List.map_id l]
    refine List.map_congr_left fun x _ => ?_
    exact str_eq x
  rw [e3, show TL.tl ⟨s.toArray⟩ = s from str_eq s, joinL_N] at e2
  rw [e]
  have e4 : (Str.join ⟨s.toArray⟩ (l.map fun x => (⟨x.toArray⟩ : Str))).cps.toList = joinN s l := e2
  generalize Str.join ⟨s.toArray⟩ (l.map fun x => (⟨x.toArray⟩ : Str)) = w at e4 ⊢
  obtain ⟨w⟩ := w
  simp only at e4
  rw [← e4]
theorem joinN_len (s : List Nat) : ∀ l : List (List Nat), (joinN s l).length ≤ (l.map (·.length)).sum + l.length * s.length
  | [] => by simp [joinN]
  | [x] => by simp [joinN]
  | x :: y :: r => by
    have h := joinN_len s (y :: r)
    have e : (x :: y :: r).length * s.length = (y :: r).length * s.length + s.length := by
      rw [List.length_cons (a := x), Nat.succ_mul]
    rw [e]
    show (x ++ (s ++ joinN s (y :: r))).length ≤ (x :: y :: r |>.map (·.length)).sum + _
    rw [List.length_append, List.length_append, List.map_cons, List.sum_cons]
    omega
theorem joinN_ok {s : List Nat} (hs : ∀ c ∈ s, c < 1114112) : ∀ {l : List (List Nat)}, (∀ x ∈ l, ∀ c ∈ x, c < 1114112) → ∀ c ∈ joinN s l, c < 1114112
  | [], _, _, h => nomatch h
  | [x], hl, c, h => hl x (List.mem_singleton.mpr rfl) c h
  | x :: y :: r, hl, c, h => by
    have h' : c ∈ x ++ (s ++ joinN s (y :: r)) := h
    rcases List.mem_append.mp h' with h | h
    · exact hl x List.mem_cons_self c h
    · rcases List.mem_append.mp h with h | h
      · exact hs c h
      · exact joinN_ok hs (fun x hx => hl x (List.mem_cons_of_mem _ hx)) c h
theorem base_of {o : Expr} {n : Str} {env : PySem.Env} (h : baseB o = true) : attributeBase o n env (eval o env) = eval o env := by
  cases o <;> first | rfl | cases h
theorem few_of {cpos : Pos} {env : PySem.Env} {xs : List Expr} (h : (backTo cpos (starEach xs env)).any (·.1) = false) (hl : xs.length < 28) :
    ((backTo cpos (starEach xs env)).all (fun x => !x.1) && (backToKw cpos (keywordEach [] env)).all (fun x => x.1.isSome) && decide (xs.length + ([] : List Keyword).length + (if ([] : List Keyword).isEmpty then 0 else 1) < 30)) = true := by
  have e : (backTo cpos (starEach xs env)).all (fun x => !x.1) = true := by
    rw [List.all_eq_not_any_not]
    simp only [Bool.not_not]
    rw [h]; rfl
  rw [e]
  have e2 : decide (xs.length + ([] : List Keyword).length + (if ([] : List Keyword).isEmpty then 0 else 1) < 30) = true := by
    refine decide_eq_true ?_
    show xs.length + 0 + 0 < 30
    omega
  rw [e2]; rfl
theorem e_join {o : Expr} {co : Xp} {apos : Pos} {m : Mo} (Z : Cz z X M G Wx) (hb : baseB o = true) (hl : (apos.endLine == pos.line) = true) (hfew : (e :: es).length < 28) (ho : PE X o (tE G M Wx .bor co)) (ha : PA X (e :: es) (tA G M Wx false ces)) (hs : notStar e = true)
    (hpl : ∀ pos, (backTo pos (starEach (e :: es) X.env)).any (·.1) = false) : PE X (.Call (.Attribute o "join" apos) (e :: es) [] pos) (tE G M Wx m (.mt .join co ces)) := by
  have hpl2 : ∀ pos, (backTo pos (starEach es X.env)).any (·.1) = false := fun pos => by
    have := hpl pos
    rw [star_of hs] at this
    have e : (false || (backTo pos (starEach es X.env)).any (·.1)) = false := this
    simpa using e
  refine PE.imp (pe_bm F.plainAttrs_str F.slot_str_join F.type_str_join mt_join ho ha (base_of hb) (few_of (hpl _) hfew) hl (star_of hs) (hpl2 _)) fun σV H Q h => ?_
  obtain ⟨O, ags, W, σ, S, sit, h⟩ := h
  simp only [evE] at h
  refine ⟨O, ags, W, σ, S, sit, (Pst.bnd h).imp fun x S1 ags1 H1 e1 r1 h1 v rv => ?_⟩
  split at h1
  · rename_i hx
    cases x <;> first | (cases hx; done) | skip
    rename_i s
    obtain ⟨rfl, g⟩ := rv.str
    refine ⟨rfl, O, ags1, W, σ, S1, sit.ext e1 r1, (Pst.bnd h1).imp fun ds S2 ags2 H2 e2 r2 h2 vs rvs => ?_⟩
    have rvs : RelNs M O ags2 W H2 ds vs := rvs
    have h2 : Pst M O W Wx σV ags2 H2 (R.lif (joinD s ds) S2) (fun d S' ags' H' => ∀ v, RelM m M O H ags' W H' d v → Q v H') := h2
    unfold joinD at h2
    split at h2
    rotate_left
    · exact h2.elim
    rename_i xs _ _
    obtain ⟨w, rfl, rw'⟩ := rvs.one
    obtain ⟨la, ws, rfl, hl, hw⟩ := rw'.lst
    cases hf : strsOf xs with
    | none => rw [hf] at h2; exact h2.elim
    | some l =>
      rw [hf] at h2
      simp only at h2
      split at h2
      · rename_i hz
        obtain ⟨rfl, hg⟩ := hw.strsOf hf
        refine ⟨_, la, l.map fun x => ⟨x.toArray⟩, rfl, rfl, .inl (.inl (.inl ?_)), ?_, ?_⟩
        · rw [hl, List.map_map]; rfl
        · rw [List.map_map, List.length_map, str_len]
          have e : (l.map ((fun x : Str => x.length) ∘ fun x => ⟨x.toArray⟩)) = l.map (·.length) := List.map_congr_left fun x _ => str_len x
          rw [e]; exact hz
        · rw [join_str]
          exact h2.ok r2 _ (RelM.ofF (.inl ⟨rfl, rfl, Nat.le_trans (joinN_len _ _) (by rw [sizeLine_eq]; exact hz), joinN_ok g.ok fun x hx => (hg x hx).ok⟩))
      · exact h2.elim
  · exact h1.elim
theorem e_sindex {o : Expr} {co : Xp} {apos : Pos} {m : Mo} (Z : Cz z X M G Wx) (hb : baseB o = true) (hl : (apos.endLine == pos.line) = true) (hfew : (e :: es).length < 28) (ho : PE X o (tE G M Wx .bor co)) (ha : PA X (e :: es) (tA G M Wx false ces)) (hs : notStar e = true)
    (hpl : ∀ pos, (backTo pos (starEach (e :: es) X.env)).any (·.1) = false) : PE X (.Call (.Attribute o "index" apos) (e :: es) [] pos) (tE G M Wx m (.mt .index co ces)) := by
  have hpl2 : ∀ pos, (backTo pos (starEach es X.env)).any (·.1) = false := fun pos => by
    have := hpl pos
    rw [star_of hs] at this
    have e : (false || (backTo pos (starEach es X.env)).any (·.1)) = false := this
    simpa using e
  refine PE.imp (pe_bm F.plainAttrs_str F.slot_str_index F.type_str_index mt_sindex ho ha (base_of hb) (few_of (hpl _) hfew) hl (star_of hs) (hpl2 _)) fun σV H Q h => ?_
  obtain ⟨O, ags, W, σ, S, sit, h⟩ := h
  simp only [evE] at h
  refine ⟨O, ags, W, σ, S, sit, (Pst.bnd h).imp fun x S1 ags1 H1 e1 r1 h1 v rv => ?_⟩
  split at h1
  · rename_i hx
    cases x <;> first | (cases hx; done) | skip
    rename_i s
    obtain ⟨rfl, g⟩ := rv.str
    refine ⟨rfl, O, ags1, W, σ, S1, sit.ext e1 r1, (Pst.bnd h1).imp fun ds S2 ags2 H2 e2 r2 h2 vs rvs => ?_⟩
    have rvs : RelNs M O ags2 W H2 ds vs := rvs
    rcases ds with _ | ⟨d, _ | ⟨d2, r⟩⟩
    · exact h2.elim
    · cases d <;> first | exact h2.elim | skip
      rename_i x _
      obtain ⟨w, rfl, rw'⟩ := rvs.one
      obtain ⟨rfl, g2⟩ := rw'.str
      have h2 : Pst M O W Wx σV ags2 H2 (R.lif (match PySem.Builtin.Str.occurrences ⟨s.toArray⟩ ⟨x.toArray⟩ 0 s.length 1 with | i :: _ => some (D.int (i : Nat)) | [] => none) S2) (fun d S' ags' H' => ∀ v, RelM m M O H ags' W H' d v → Q v H') := h2
      split at h2
      · rename_i i rest ho
        refine ⟨_, _, i, rest, rfl, rfl, ?_, h2.ok r2 _ (RelM.ofF (.inl ⟨rfl, rfl⟩))⟩
        rw [str_len]
        exact ho
      · exact h2.elim
    · have e0 : mtD .index (.str s) (d :: d2 :: r) = none := by cases d <;> rfl
      rw [e0] at h2
      exact h2.elim
  · exact h1.elim
theorem e_bits {o : Expr} {co : Xp} {apos : Pos} {m : Mo} (hb : baseB o = true) (hl : (apos.endLine == pos.line) = true) (ho : PE X o (tE G M Wx .bor co)) : PE X (.Call (.Attribute o "bit_length" apos) [] [] pos) (tE G M Wx m (.mt .bitlen co .nil)) := by
  refine PE.imp (pe_bits ho (base_of hb) hl) fun σV H Q h => ?_
  obtain ⟨O, ags, W, σ, S, sit, h⟩ := h
  simp only [evE] at h
  refine ⟨O, ags, W, σ, S, sit, (Pst.bnd h).imp fun x S1 ags1 H1 e1 r1 h1 v rv => ?_⟩
  cases x with
  | int i =>
    cases rv.int
    have h1 : Pst M O W Wx σV ags1 H1 (R.ok (.int (bitLen i.natAbs)) S1) (fun d S' ags' H' => ∀ v, RelM m M O H ags' W H' d v → Q v H') := h1
    refine ⟨i, rfl, ?_⟩
    have e : (Builtin.Int.intBits i : Nat) = bitLen i.natAbs := by
      unfold Builtin.Int.intBits bitLen
      by_cases hi : i = 0
      · subst hi; rfl
      · rw [if_neg (by simpa using hi), if_neg (by simpa using hi)]
    rw [e]
    exact h1.ok r1 _ (RelM.ofF (.inl ⟨rfl, rfl⟩))
  | _ => exact h1.elim

/-! ### tests of values -/
theorem tru_of {K : PySem.W.Frag} {O : Adr} {ags : List Addr} {W : Nat → Option Addr} {H : Hp} {d : D} {v : V} {k : Bool} (h : RelN M O ags W H d v) (e : truthy d = some k) : TruV K v H k := by
  cases d with
  | non => cases h.non; cases e; rfl
  | bl b => cases h.bl; cases e; rfl
  | int i => cases h.int; cases e; rfl
  | str x =>
    obtain ⟨rfl, g⟩ := h.str
    cases e
    refine ⟨by rw [str_len]; exact g.len, ?_⟩
    rw [str_len]
    cases x with
    | nil => rfl
    | cons c r => simp; omega
  | lst ds =>
    obtain ⟨a, vs, rfl, ha, hv⟩ := h.lst
    cases e
    refine .inl ⟨vs, .inl (.inl ha), ?_⟩
    have := hv.length
    cases ds <;> cases vs <;> first | rfl | cases this
  | tup ds =>
    obtain ⟨a, vs, rfl, ha, hv⟩ := h.tup
    cases e
    refine .inr (.inl ⟨vs, .inl (.inl ha), ?_⟩)
    have := hv.length
    cases ds <;> cases vs <;> first | rfl | cases this
  | _ => cases e
theorem t_val {c : Xp} (ha : PE X a (tE G M Wx .now c)) (he : ∀ whole, isTrue a X.env whole = (do let v ← whole; standAt a.pos; holding [v] (PySem.truthy v))) (hc : ∀ σ S, evT G c σ S = (evE G c σ S).bnd fun x S1 => R.lif (PV.truthy x) S1) :
    PT X a (tT G M Wx c) := by
  refine PT.imp (pt_truth ha he) fun σV H Q h => ?_
  obtain ⟨O, ags, W, σ, S, sit, h⟩ := h
  rw [hc] at h
  refine ⟨O, ags, W, σ, S, sit, (Pst.bnd h).imp fun x S1 ags1 H1 e1 r1 h1 v rv => ?_⟩
  cases hf : PV.truthy x with
  | none => rw [hf] at h1; exact h1.elim
  | some k => rw [hf] at h1; exact ⟨k, tru_of rv hf, h1.ok r1⟩
theorem bnd_assoc {α β γ : Type} (m : R α) (f : α → List D → R β) (g : β → List D → R γ) : (m.bnd f).bnd g = m.bnd fun a S => (f a S).bnd g := by cases m <;> rfl
theorem lif_bind {α β : Type} (o : Option α) (S : List D) (f : α → Option β) : (R.lif o S).bnd (fun x S1 => R.lif (f x) S1) = R.lif (o.bind f) S := by cases o <;> rfl
def tstB : Xp → Bool
  | .var _ | .bvar _ | .call _ _ | .bi _ _ | .isi _ _ | .sub _ _ | .isx _ _ | .isv _ | .isi2 _ _ _ | .cfv _ _ _ => true
  | _ => false
theorem evT_val {c : Xp} (h : tstB c = true) (σ : Sg) (S : List D) : evT G c σ S = (evE G c σ S).bnd fun x S1 => R.lif (PV.truthy x) S1 := by
  cases c <;> first | (cases h; done) | skip
  · simp only [evT, evE]
    split <;> rfl
  · simp only [evT, evE, lif_bind]
  · simp only [evT, evE, bnd_assoc]
    congr 1
    funext x S1
    congr 1
    funext y S2
    exact (lif_bind _ _ _).symm
  · simp only [evT, evE, bnd_assoc]
  · simp only [evT, evE, bnd_assoc, lif_bind]
  · simp only [evT, evE, bnd_assoc, lif_bind]
    congr 1
    funext x S1
    congr 1
    cases tyD _ x <;> rfl
  · simp only [evT, evE]
  · simp only [evT, evE, bnd_assoc, lif_bind]
    congr 1
    funext x S1
    congr 1
    cases isxD _ x <;> rfl
  · simp only [evT, evE, bnd_assoc, lif_bind]
    congr 1
    funext x S1
    congr 1
    cases isxD _ x <;> rfl
  · simp only [evT, evE, bnd_assoc, lif_bind]
    congr 1
    funext x S1
    congr 1
    cases tyD2 _ _ x <;> rfl

/-! ### calls -/
theorem Pst.impE {α : Type} {O : Adr} {W : Nat → Option Addr} {σV : L2.St} {ags : List Addr} {H : Hp} {m : R α} {K K' : α → List D → List Addr → Hp → Prop} (h : Pst M O W Wx σV ags H m K) (k : ∀ a S' ags' H', m = .ok a S' → Ext ags H ags' H' → SR M O ags' W H' S' → K a S' ags' H' → K' a S' ags' H') :
    Pst M O W Wx σV ags H m K' := by
  cases m with
  | ok a S => exact fun ags1 H1 e1 r1 => k _ _ _ _ rfl e1 r1 (h _ _ e1 r1)
  | exc e S => exact h
  | stuck => exact h
theorem bnd_eq_ok {α β : Type} {m : R α} {f : α → List D → R β} {b : β} {S : List D} (h : m.bnd f = .ok b S) : ∃ a S1, m = .ok a S1 ∧ f a S1 = .ok b S := by
  cases m with
  | ok a S1 => exact ⟨a, S1, rfl, h⟩
  | exc _ _ => cases h
  | stuck => cases h
theorem evEs_len : ∀ (es : Xps) {σ : Sg} {S S' : List D} {ds : List D}, evEs G es σ S = .ok ds S' → ds.length = lenEs es
  | .nil, σ, S, S', ds, h => by simp only [evEs] at h; cases h; rfl
  | .cons e r, σ, S, S', ds, h => by
    simp only [evEs] at h
    obtain ⟨a, S1, _, h⟩ := bnd_eq_ok h
    obtain ⟨b, S2, hb, h⟩ := bnd_eq_ok h
    cases h
    simp [lenEs, evEs_len r hb]
theorem fin_call {f n : Nat} {m : Mo} {O : Adr} {ags1 : List Addr} {W : Nat → Option Addr} {H H1 : Hp} {S1 : List D} {ds : List D} {vs : List V} {σV : L2.St} {Q : VK} (hm : m ≠ .frs) (hn : vs.length = n) (r1 : SR M O ags1 W H1 S1) (rvs : VRs M ags1 (exs O ags1 W) H1 ds vs)
    (h1 : Pst M O W Wx σV ags1 H1 (G.fn f ds S1) fun d S' ags' H' => ∀ v, RelM m M O H ags' W H' d v → Q v H') : rCall M Wx n (G.fn f) vs σV H1 Q := by
  refine ⟨hn, O, ags1, W, S1, ds, r1, rvs, h1.imp fun d S2 ags2 H2 e2 r2 q v rv => q v ?_⟩
  cases m with
  | now => exact .inl rv
  | bor => exact .inl rv
  | cap => exact rv
  | frs => exact absurd rfl hm
theorem e_call {f n : Nat} {x : Str} {q : List Kw} {m : Mo} (Z : Cz z X M G Wx) (hf : z.FN[f]? = some (x, n, q)) (hg : glB z.sc x = true) (hn : nmOk x = true) (ha : PA X (e :: es) (tA G M Wx true ces)) (hl : lenEs ces = n)
    (hs : notStar e = true) (hpl : ∀ pos, (backTo pos (starEach es X.env)).any (·.1) = false) (hm : m ≠ .frs) : PE X (.Call (.Name x p) (e :: es) [] pos) (tE G M Wx m (.call f ces)) := by
  obtain ⟨fa, h1, h2, c0, ck⟩ := callG (Z.fn f x n q hf) Z.gd Z.tk
  have main : PE X (.Call (.Name x p) (e :: es) [] pos) (fun σV H Q => tA G M Wx true ces σV H fun vs H1 => rCall M Wx n (G.fn f) vs σV H1 Q) := by
    refine ⟨fun pins s σ H Q I h => ?_⟩
    refine wpAny_Call_Name_kw (ld_glob I (gl_of Z hg) h1 ?_ (nm_of hn).1)
    refine PySem.W.callWith_K (h₀ := X.base) I.ok.mod.kin h2 (thn (ha.run pos pins s σ H _ I h) fun us s1 ⟨vs, H1, I1, r1, q1⟩ => ⟨I1.kIn, ?_⟩) (star_of hs) (hpl _)
    exact c0 pins s1 σ H1 vs [] us [] Q I1 r1 .nil q1
  refine PE.imp main fun σV H Q h => ?_
  obtain ⟨O, ags, W, σ, S, sit, h⟩ := h
  simp only [evE] at h
  refine ⟨O, ags, W, σ, S, sit, (Pst.bnd h).impE fun ds S1 ags1 H1 hE e1 r1 h1 vs rvs => ?_⟩
  have rvs : VRs M ags1 (exs O ags1 W) H1 ds vs := rvs
  exact fin_call hm (by rw [rvs.length, evEs_len _ hE, hl]) r1 rvs h1
theorem e_call0 {f : Nat} {x : Str} {q : List Kw} {m : Mo} (Z : Cz z X M G Wx) (hf : z.FN[f]? = some (x, 0, q)) (hg : glB z.sc x = true) (hn : nmOk x = true) (hm : m ≠ .frs) : PE X (.Call (.Name x p) [] [] pos) (tE G M Wx m (.call f .nil)) := by
  obtain ⟨fa, h1, h2, c0, ck⟩ := callG (Z.fn f x 0 q hf) Z.gd Z.tk
  have main : PE X (.Call (.Name x p) [] [] pos) (fun σV H Q => rCall M Wx 0 (G.fn f) [] σV H Q) := by
    refine ⟨fun pins s σ H Q I h => ?_⟩
    refine wpAny_Call_Name_kw (ld_glob I (gl_of Z hg) h1 ?_ (nm_of hn).1)
    exact PySem.W.callWith_K0 I.kIn h2 (c0 pins s σ H [] [] [] [] Q I .nil .nil h)
  refine PE.imp main fun σV H Q h => ?_
  obtain ⟨O, ags, W, σ, S, sit, h⟩ := h
  simp only [evE, evEs, R.bnd_ok] at h
  have rv0 : VRs M ags (exs O ags W) H [] [] := rfl
  exact fin_call hm rfl sit.sto rv0 h
/-- by keywords -/
theorem mKs_len : ∀ {cks : Xps} {kws : List Keyword}, mKs z cks kws = true → lenEs cks = (kws.filterMap (·.arg)).length
  | .nil, [], _ => rfl
  | .cons _ r, ⟨some n, x, kp⟩ :: xs, h => by
    simp only [mKs, Bool.and_eq_true] at h
    have := mKs_len h.2
    show lenEs r + 1 = (n :: xs.filterMap (·.arg)).length
    rw [this]; rfl
  | .nil, _ :: _, h => by simp [mKs] at h
  | .cons _ _, [], h => by simp [mKs] at h
  | .cons _ _, ⟨none, _, _⟩ :: _, h => by simp [mKs] at h
theorem perm_vrs {ags : List Addr} {Ex : Adr} {H : Hp} {ds : List D} {vs : List V} (h : VRs M ags Ex H ds vs) : ∀ perm : List Nat, VRs M ags Ex H (perm.map fun j => ds.getD j .non) (perm.map fun j => vs.getD j .non)
  | [] => rfl
  | j :: r => by
    refine ⟨_, _, rfl, ?_, perm_vrs h r⟩
    show VR M ags Ex H (ds.getD j .non) (vs.getD j .non)
    rw [List.getD_eq_getElem?_getD, List.getD_eq_getElem?_getD]
    cases e : ds[j]? with
    | none =>
      have : vs[j]? = none := by
        rw [List.getElem?_eq_none_iff, h.length]
        exact List.getElem?_eq_none_iff.mp e
      rw [this]; rfl
    | some d =>
      obtain ⟨v, e2, r⟩ := h.get e
      rw [e2]; exact r
theorem e_callk {f n : Nat} {x : Str} {q : List Kw} {kws : List Keyword} {cks : Xps} {perm : List Nat} {m : Mo} (Z : Cz z X M G Wx) (hf : z.FN[f]? = some (x, n, q)) (hg : glB z.sc x = true) (hn : nmOk x = true) (hp : perm.length = n)
    (hq : (⟨lenEs ces, kws.filterMap (·.arg), perm⟩ : Kw) ∈ q) (ha : PA X (e :: es) (tA G M Wx true ces)) (hk : PK X kws (tA G M Wx true cks)) (hs : notStar e = true) (hpl : ∀ pos, (backTo pos (starEach (e :: es) X.env)).any (·.1) = false) (hmk : mKs z cks kws = true) (hm : m ≠ .frs) :
    PE X (.Call (.Name x p) (e :: es) kws pos) (tE G M Wx m (.callk f ces cks perm)) := by
  obtain ⟨fa, h1, h2, c0, ck⟩ := callG (Z.fn f x n q hf) Z.gd Z.tk
  have kk := ck _ hq
  obtain ⟨k1, k2, k3⟩ := mKs_all (pos := pos) (env := X.env) hmk
  have main : PE X (.Call (.Name x p) (e :: es) kws pos) (fun σV H Q => tA G M Wx true ces σV H fun vs H1 => tA G M Wx true cks σV H1 fun zs H2 => rCall M Wx n (G.fn f) (gP (lenEs ces) (kws.filterMap (·.arg)).length perm V.non vs zs) σV H2 Q) := by
    refine ⟨fun pins s σ H Q I h => ?_⟩
    refine wpAny_Call_Name_kw (ld_glob I (gl_of Z hg) h1 ?_ (nm_of hn).1)
    refine PySem.W.callWith_KW (h₀ := X.base) I.ok.mod.kin h2 k1 (thn (ha.run pos pins s σ H _ I h) fun us s1 ⟨vs, H1, I1, r1, q1⟩ => ?_) (by rw [hpl, k2]; rfl) (star_of hs)
    refine thn (hk.run pos pins s1 σ H1 _ I1 q1) fun ws s2 ⟨zs, H2, I2, rz, q2⟩ => ⟨I2.kIn, ?_⟩
    rw [k3]
    exact kk pins s2 σ H2 vs zs us ws Q I2 r1 rz q2
  refine PE.imp main fun σV H Q h => ?_
  obtain ⟨O, ags, W, σ, S, sit, h⟩ := h
  simp only [evE] at h
  refine ⟨O, ags, W, σ, S, sit, (Pst.bnd h).impE fun ds S1 ags1 H1 hE e1 r1 h1 vs rvs => ⟨O, ags1, W, σ, S1, sit.ext e1 r1, (Pst.bnd h1).impE fun ds2 S2 ags2 H2 hE2 e2 r2 h2 ws rws => ?_⟩⟩
  have rvs : VRs M ags1 (exs O ags1 W) H1 ds vs := rvs
  have rws : VRs M ags2 (exs O ags2 W) H2 ds2 ws := rws
  have l1 := evEs_len _ hE
  have l2 := evEs_len _ hE2
  have lk : lenEs cks = (kws.filterMap (·.arg)).length := mKs_len hmk
  have g : gP (lenEs ces) (kws.filterMap (·.arg)).length perm V.non vs ws = perm.map fun j => (vs ++ ws).getD j .non := by
    unfold gP
    rw [if_pos ⟨by rw [rvs.length, l1], by rw [rws.length, l2, lk]⟩]
  show rCall M Wx n (G.fn f) (gP (lenEs ces) (kws.filterMap (·.arg)).length perm V.non vs ws) σV H2 Q
  rw [g]
  exact fin_call hm (by rw [List.length_map, hp]) r2 (perm_vrs ((VRs.le e2.le _ _ rvs).append rws) perm) h2
theorem e_callk0 {f n : Nat} {x : Str} {q : List Kw} {kws : List Keyword} {cks : Xps} {perm : List Nat} {m : Mo} (Z : Cz z X M G Wx) (hf : z.FN[f]? = some (x, n, q)) (hg : glB z.sc x = true) (hn : nmOk x = true) (hp : perm.length = n)
    (hq : (⟨0, kws.filterMap (·.arg), perm⟩ : Kw) ∈ q) (hk : PK X kws (tA G M Wx true cks)) (hmk : mKs z cks kws = true) (hm : m ≠ .frs) :
    PE X (.Call (.Name x p) [] kws pos) (tE G M Wx m (.callk f .nil cks perm)) := by
  obtain ⟨fa, h1, h2, c0, ck⟩ := callG (Z.fn f x n q hf) Z.gd Z.tk
  have kk := ck _ hq
  obtain ⟨k1, k2, k3⟩ := mKs_all (pos := pos) (env := X.env) hmk
  have main : PE X (.Call (.Name x p) [] kws pos) (fun σV H Q => tA G M Wx true cks σV H fun zs H2 => rCall M Wx n (G.fn f) (gP 0 (kws.filterMap (·.arg)).length perm V.non [] zs) σV H2 Q) := by
    refine ⟨fun pins s σ H Q I h => ?_⟩
    refine wpAny_Call_Name_kw (ld_glob I (gl_of Z hg) h1 ?_ (nm_of hn).1)
    refine PySem.W.callWith_KW0 (h₀ := X.base) I.ok.mod.kin h2 k1 (thn (hk.run pos pins s σ H _ I h) fun ws s2 ⟨zs, H2, I2, rz, q2⟩ => ⟨I2.kIn, ?_⟩) (by rw [k2]; rfl)
    rw [k3]
    exact kk pins s2 σ H2 [] zs [] ws Q I2 .nil rz q2
  refine PE.imp main fun σV H Q h => ?_
  obtain ⟨O, ags, W, σ, S, sit, h⟩ := h
  simp only [evE, evEs, R.bnd_ok, List.nil_append] at h
  refine ⟨O, ags, W, σ, S, sit, (Pst.bnd h).impE fun ds2 S2 ags2 H2 hE2 e2 r2 h2 ws rws => ?_⟩
  have rws : VRs M ags2 (exs O ags2 W) H2 ds2 ws := rws
  have l2 := evEs_len _ hE2
  have lk : lenEs cks = (kws.filterMap (·.arg)).length := mKs_len hmk
  have g : gP 0 (kws.filterMap (·.arg)).length perm V.non [] ws = perm.map fun j => ws.getD j .non := by
    unfold gP
    rw [if_pos ⟨rfl, by rw [rws.length, l2, lk]⟩]
    rfl
  show rCall M Wx n (G.fn f) (gP 0 (kws.filterMap (·.arg)).length perm V.non [] ws) σV H2 Q
  rw [g]
  exact fin_call hm (by rw [List.length_map, hp]) r2 (perm_vrs rws perm) h2
end
end PV

/-! ## PV: the package's exceptions are made -/
namespace PV
open PySem PySem.Spec PyProof.Rows L2

/-- super().__init__(value); self.value = value -/
def initBody (p0 p1 p2 p3 p4 p5 p6 p7 p8 p9 : Pos) : List Stmt :=
  [.Expr (.Call (.Attribute (.Call (.Name "super" p0) [] [] p1) "__init__" p2) [.Name "value" p3] [] p4) p5,
   .Assign [.Attribute (.Name "self" p6) "value" p7] (.Name "value" p8) p9]
/-- what is asked of the class C of the object that is made, D the class whose __init__ it is -/
structure ClsI (K : PySem.W.Frag) (D C : Addr) : Prop where
  ox : OexC K C
  va : PySem.W.findIn K (.ref C) "value" = some none
  su : PySem.W.ks_superIn K C D "__init__" = some (some (.builtin "ValueError.__init__"))
  md : PySem.W.mroIn K C (.ref D) = some true
  ve : PySem.W.subIn K (.ref C) (.type "ValueError") = some true
def spInit (K : PySem.W.Frag) (D : Addr) : Sp := fun vs H Q _ => ∃ (x C : Addr) (y : V), vs = [.ref x, y] ∧ ClsI K D C ∧ H x = some (exo x C none) ∧
  ∀ dx, H dx = none → dx ≠ x → Q .non (upd (upd H dx (exd dx [("value", y)])) x (exo x C (some dx)))
/-- what is asked of the def __init__ -/
structure FnI (P : Program) (K : PySem.W.Frag) (mg : Str → Option Value) (D fI : Addr) (fd : FuncData) : Prop where
  ex : ∃ (nm qual : Str) (params : Arguments) (scope : Scope) (dV kV doc pm : Value) (an : Option Addr) (cda : Addr) (ct oc : Value) (cc : Addr) (od : Option Addr) (osl : Array (Option Value)) (p0 p1 p2 p3 p4 p5 p6 p7 p8 p9 : Pos)
      (ar : Arg) (ccl cl : Value) (cdd cld : Option Addr) (vs : Array Value) (ccs csl : Array (Option Value)) (file : Str) (tf : Tok) (cdD : ClassData),
    fd = PySem.W.ksFn nm qual params (initBody p0 p1 p2 p3 p4 p5 p6 p7 p8 p9) scope dV kV doc pm an (.ref cda) ct cc ∧
    K.lookup fI = some ⟨oc, od, .func fd, osl⟩ ∧ PySem.W.codeIn K (.ref cda) qual = true ∧
    K.lookup cda = some ⟨ccl, cdd, .fields vs, ccs⟩ ∧ vs[2]? = some (.str file tf) ∧ ((P.main.file : Str) == file) = true ∧
    K.lookup cc = some ⟨cl, cld, .cell (some (.ref D)), csl⟩ ∧ PySem.W.clsIn K D = some cdD ∧ (p2.endLine == p4.line) = true ∧
    (params.posonlyargs ++ params.args).head? = some ar ∧ ar.arg = "self" ∧
    NdefX.NScope ["self", "value", "__class__"] ["self", "value"] ["__class__"] scope ∧ scope.names.lookup ("super" : Str) = some .globalImplicit
  htop : (P.main.scope.names.lookup ("super" : Str)).isSome = false
  msu : mg "super" = none
  opq : PySem.W.nsIn K cStatics "thirdparty.any" = some none
theorem boot_super : bootBuiltins "super" = some (.type "super") := by first | boot_by_name | rfl | kernel_rfl
/-- super().__init__(value) of the object at x -/
theorem mwcall {prog : Program} {w : World} {A : Around} {E : Value → Shared → Prop} {h : Heap} {g : Array GenState} {d : Drawn} {t : Nat} {os : OsState} {nm q : Str} {C N : Addr} {bs bm : List Value} {hdct : Bool} {sn : List Str} {sub : List Value} {ab : Bool} {col : Option Bool} {dd : Option Addr} {k0 k1 k2 k3 k5 : Option Value} {u x t0 : Addr} {rest : List Value} {Q : Value → Shared → Prop}
    (hC : h.get? C = some (excClassObj nm q C N bs bm hdct sn sub ab col dd k0 k1 k2 k3 k5 "ValueError.__new__")) (he : h.get? x = some (PySem.HandSPX.excO C t0)) (hu : h.get? u = some (PySem.W.kxs_mw "ValueError.__init__" x)) (hrest : rest.length ≤ sizeLine)
    (hq : ∀ h' t1, (∀ b o, b ≠ x → h.get? b = some o → h'.get? b = some o) → h'.get? x = some (PySem.HandSPX.excO C t1) → Q .none ⟨h', g, d, t, os⟩) :
    wpAny (model prog w) A (call (.ref u) rest) Q E ⟨h, g, d, t, os⟩ := by
  have FB := F.excBase_ValueError
  refine wpAny_call (codeAny_of_tree ?_)
  show wpAny _ A.in1 (callAny (.ref u) ⟨rest, []⟩) _ _ _
  simp only [callAny]
  refine wpAny_bind (wpAny_load hu ?_)
  simp only [PySem.W.kxs_mw, show (Value.type "method-wrapper" == Value.type "method" || Value.type "method-wrapper" == Value.type "builtin_function_or_method" || Value.type "method-wrapper" == Value.type "method-wrapper") = true by decide, if_true]
  refine PySem.W.KFB.if_so (by decide) ?_
  refine wpAny_bind (PySem.W.check_bound_init FB.toExcCallFacts hC he rfl ?_)
  refine wpAny_bind (wpAny_pure (wpAny_pure ?_))
  refine ⟨plainId_quiet FB.init.plain _, codeAny_builtin FB.initEntry ?_⟩
  exact PySem.W.exc_init_tree (cls := .ref C) (t0 := t0) (dv := none) (c2 := .none) (c3 := .none) (b4 := .bool false) he hrest fun h' k e _ => hq h' _ k e
theorem few_one {e : Expr} {m : Str} {o : Expr} {ap pos : Pos} {env : PySem.Env} (hl : (ap.endLine == pos.line) = true) (he : starEach [e] env = (false, eval e env) :: starEach [] env) :
    eval (.Call (.Attribute o m ap) [e] [] pos) env = (do
      let ov ← attributeBase o m env (eval o env)
      standAt ap.atName
      let (f, first) ← holding [ov] (getMethod ov m (do return (← importBound o env).getD true))
      callWith pos f first (backTo pos (starEach [e] env)) []) := by
  rw [arm_eval_Call]
  have hf : methodCallForm ([e].length + ([] : List Keyword).length) (backTo pos (starEach [e] env)) (backToKw pos (keywordEach [] env)) = true := by
    rw [he]; rfl
  have : ∀ ov, methodCall o m ap pos env ov ([e].length + ([] : List Keyword).length) (backTo pos (starEach [e] env)) (backToKw pos (keywordEach [] env)) = (do
      let (f, first) ← holding [ov] (getMethod ov m (do return (← importBound o env).getD true))
      callWith pos f first (backTo pos (starEach [e] env)) []) := fun ov => by
    unfold methodCall
    rw [hf]
    unfold calleeOf methodCallPos
    rw [hl]
    simp only [if_true, Bool.not_true, Bool.false_or, pure_bind]
    rfl
  simp only [this]
theorem init_ok {P : Program} {w : World} {K : PySem.W.Frag} {mg : Str → Option Value} {base : Heap} {D fI : Addr} {fd : FuncData} {k : Nat} (F : FnI P K mg D fI fd) : FnOk P w K mg base (L2.CX P w) (k + 1) fI fd ["self", "value"] (spInit K D) := by
  obtain ⟨⟨nm, qual, params, scope, dV, kV, doc, pm, an, cda, ct, oc, cc, od, osl, p0, p1, p2, p3, p4, p5, p6, p7, p8, p9, ar, ccl, cl, cdd, cld, vsc, ccs, csl, file, tf, cdD, rfl, lf, hcd, lcd, hvs, hfile, lcc, hD, hline, hp, har, S, hsu⟩, htop, hmsu, hopq⟩ := F
  refine ⟨fun vs H Q E h => ?_, fun A outer s H args us vs Q E hr e0 hb r hsp => ?_⟩
  · obtain ⟨x, C, y, rfl, _⟩ := h
    rfl
  obtain ⟨x, C, y, rfl, T, hx, hq⟩ := hsp
  obtain ⟨u, rfl, ry⟩ : ∃ u, us = [.ref x, u] ∧ RelV y u := by
    cases r with
    | cons rx rr =>
      cases rr with
      | cons ru rr =>
        cases rr
        cases rx
        exact ⟨_, rfl, ru⟩
  have X0 : K.In s.heap := e0.mod.kin.keeps fun b o e => (e0.bs b o e).1
  have lim : s.heap.NoLimit := e0.mod.nolimit.keeps fun b o e => (e0.bs b o e).1
  have loc : ∀ z ∈ [("self" : Str), "value"].zip [Value.ref x, u], scope.names.lookup z.1 = some .local := fun z hz => S.par z.1 (List.of_mem_zip hz).1
  refine PySem.ks_codeAny_call_defAt (fd := PySem.W.ksFn nm qual params (initBody p0 p1 p2 p3 p4 p5 p6 p7 p8 p9) scope dV kV doc pm an (.ref cda) ct cc) (body := initBody p0 p1 p2 p3 p4 p5 p6 p7 p8 p9) (binds := [("self" : Str), "value"].zip [Value.ref x, u]) hr.depth (X0 _ _ lf) rfl lim (PySem.W.codeRec_of X0 hcd) rfl hb S.nocell loc (fun h₁ hns kp => ?_) S.co S.gen S.kind
  have cellC : s.heap.get? cc = some ⟨cl, cld, .cell (some (.ref D)), csl⟩ := X0 _ _ lcc
  have cellB : base.get? cc = some ⟨cl, cld, .cell (some (.ref D)), csl⟩ := e0.mod.kin _ _ lcc
  have ca : NdefX.CellsAt [("__class__", cc)] ["__class__"] [some (.ref D)] s.heap H := by
    have one : ∀ y c, ([("__class__", cc)] : List (Str × Addr)).lookup y = some c → y = "__class__" ∧ c = cc := fun y c h => by
      have := PySem.mem_of_lookup h
      simpa using this
    refine ⟨rfl, fun y c h => ?_, fun a b c h1 h2 => (one _ _ h1).1.trans (one _ _ h2).1.symm, fun i y h => ?_⟩
    · obtain ⟨rfl, rfl⟩ := one y c h
      exact ⟨(e0.bs _ _ cellB).2, _, _, cellC, rfl⟩
    · cases i with
      | zero =>
        cases h
        refine ⟨cc, rfl, fun v hv => ?_⟩
        cases hv
        exact ⟨.ref D, rfl, _, cellC, rfl⟩
      | succ i => simp at h
  have KB : ∀ {h : Heap}, (∀ b o, s.heap.get? b = some o → h.get? b = some o) → ∀ b o, base.get? b = some o → h.get? b = some o := fun k b o e => k b o (e0.bs b o e).1
  have I0 : Inv (NdefX.ncx (L2.CX P w) P w K mg base ["self", "value", "__class__"] ⟨nm, qual, params, initBody p0 p1 p2 p3 p4 p5 p6 p7 p8 p9, scope, [("__class__", cc)], cda⟩ fI A outer s H E) [] (NdefX.startF ["self", "value", "__class__"] [.ref x, y] [some (.ref D)]) H { s with heap := h₁, toks := s.toks + ([("self" : Str), "value"].zip [Value.ref x, u]).length } :=
    NdefX.inv_startN (F := ⟨nm, qual, params, initBody p0 p1 p2 p3 p4 p5 p6 p7 p8 p9, scope, [("__class__", cc)], cda⟩) S hr.hd e0 rfl r ca hns kp
  have lk : scope.names.lookup ("__class__" : Str) = some .free := S.frk _ (List.mem_cons_self ..)
  have lself : scope.names.lookup ("self" : Str) = some .local := S.par _ (List.mem_cons_self ..)
  have lval : scope.names.lookup ("value" : Str) = some .local := S.par _ (by simp)
  obtain ⟨nm2, q2, N2, bs2, bm2, sn2, sub2, ab2, col2, dd2, k0, k1, k2, k3, k5, hC, hbm⟩ := T.ox.cls
  obtain ⟨t1, hox⟩ := exo_at (I0.hok) hx
  obtain ⟨oD, hD1, hD2⟩ : ∃ oD, s.heap.get? D = some oD ∧ oD.data = .cls cdD := by
    unfold PySem.W.clsIn at hD
    split at hD
    · rename_i c d cd' sl ho
      cases hD
      exact ⟨_, X0 _ _ ho, rfl⟩
    · cases hD
  have hint : interactive (callEnv (PySem.W.ksFn nm qual params (initBody p0 p1 p2 p3 p4 p5 p6 p7 p8 p9) scope dV kV doc pm an (.ref cda) ct cc) s.heap.objs.size fI) = false := by
    unfold interactive
    have : (callEnv (PySem.W.ksFn nm qual params (initBody p0 p1 p2 p3 p4 p5 p6 p7 p8 p9) scope dV kV doc pm an (.ref cda) ct cc) s.heap.objs.size fI).scope.kind = .function := S.kind
    simp [this]
  refine PySem.ks_wpAt_execs_cons (PySem.ks_wpAt_Expr_any (hi := hint) (PySem.ks_wpAt_MethodCall ?_ (few_one hline rfl)))
  refine PySem.ks_wpAt_super_base hsu lk rfl rfl (kp _ _ (X0 _ _ lf)) rfl hp rfl (kp _ _ (X0 _ _ lcd)) rfl hvs hfile htop ?_
  obtain ⟨mb, hmb, hbb⟩ := e0.mod.blt
  refine PySem.W.ks_loadName_global S.kind hsu (PySem.Calls.loadGlobal_builtin (e0.mod.glob.keeps (KB kp)) hmsu (hmb.keeps (KB kp)) ((hbb _ (by decide +kernel)).trans boot_super) ⟨rfl, ?_⟩)
  refine wpAny_loadName_free S.kind lk rfl ⟨_, kp _ _ cellC, rfl⟩ ?_
  rw [har]
  refine wpAny_loadName_local S.kind lself hns rfl ?_
  refine PySem.ks_wpAny_isType_cls (kp _ _ hD1) hD2 ⟨rfl, ?_⟩
  have X1 : K.In h₁ := fun b o e => kp b o (X0 b o e)
  refine PySem.ks_wpAny_call_super (kp _ _ hD1) hD2 hox rfl (fun c e => by cases e) (PySem.W.looks_mroIn X1 T.md) (fun h2 hso k2 => ?_)
  have k12 : ∀ b o, s.heap.get? b = some o → h2.get? b = some o := fun b o e => k2 b o (kp b o e)
  have X2 : K.In h2 := fun b o e => k12 b o (X0 b o e)
  have hcl : PySem.W.clsIn K C = some { name := nm2, bases := bs2, mro := .ref C :: bm2, ns := N2, qualname := q2, hasDict := true, slotNames := sn2, subclasses := sub2, abstract := ab2, collection := col2, hasDel := false } := by unfold PySem.W.clsIn; rw [hC] <;> rfl
  have hox2 := k2 _ _ hox
  have In2 : PySem.W.InstAt h2 x { cls := .ref C, dict := none, data := .fields #[.ref t1, .none, .none, .none, .bool false, .none] } C none := ⟨hox2, rfl, rfl, trivial⟩
  have hI2 : PySem.W.Looks (model P w) h2 (isInstance (.ref x) (.type "ValueError")) true := In2.type.andThen (PySem.W.looks_subIn X2 T.ve)
  have su := T.su
  unfold PySem.W.ks_superIn at su
  rw [hcl] at su
  refine PySem.W.kxs_getMethod PySem.W.kxs_ValueError hso (PySem.W.looks_opaque X2 hopq) (l₀ := .ref C :: bm2) (fun A Q E s k q => wpAny_bind ((PySem.W.looks_clsIn X2 hcl) A _ E s k (wpAny_pure q))) rfl X2 su hI2 (PySem.W.ks_ne X2 In2 hcl) (by decide) ?_
  have k3 : ∀ b o, h2.get? b = some o → (h2.push (PySem.W.kxs_mw "ValueError.__init__" x)).get? b = some o := fun b o e => Heap.get?_push_of_some _ e
  refine PySem.W.kxs_callWith (i := "ValueError.__init__") (x := x) rfl (PySem.Calls.evalArgs_plain ?_)
  refine PySem.Calls.spliced_cons ?_
  refine wpAny_Name (wpAny_loadName_local S.kind lval (hns.keeps fun b o e => k3 b o (k2 b o e)) rfl ?_)
  refine PySem.Calls.spliced_nil ⟨Heap.get?_push_at rfl rfl, ?_⟩
  refine mwcall (X2.keeps k3 _ _ hC) (k3 _ _ hox2) (Heap.get?_push_at rfl rfl) (by show 1 ≤ sizeLine; rw [sizeLine_eq]; omega) (fun h4 t4 k4 e4 => ?_)
  have I1 : Inv (NdefX.ncx (L2.CX P w) P w K mg base ["self", "value", "__class__"] ⟨nm, qual, params, initBody p0 p1 p2 p3 p4 p5 p6 p7 p8 p9, scope, [("__class__", cc)], cda⟩ fI A outer s H E) [] (NdefX.startF ["self", "value", "__class__"] [.ref x, y] [some (.ref D)]) H { s with heap := h2.push (PySem.W.kxs_mw "ValueError.__init__" x), toks := s.toks + ([("self" : Str), "value"].zip [Value.ref x, u]).length + 1 } :=
    I0.kept fun b o e => k3 b o (k2 b o e)
  have J := I1.write (t' := s.toks + ([("self" : Str), "value"].zip [Value.ref x, u]).length + 1) (x := x) (e := x) (o := exo x C none) (by rw [hx]; exact True.intro) (.inl rfl) k4 ⟨_, e4⟩ (exo_ok e4)
  have eu : upd H x (exo x C none) = H := by
    funext b
    by_cases hb : b = x
    · rw [hb, upd_same, hx]
    · rw [upd_ne hb]
  rw [eu] at J
  refine wpAt_of_wpAny ?_
  have P2 := pss_one (ps_ost (f := "value") (p' := p7) (pos := p9) (pe_var (X := NdefX.ncx (L2.CX P w) P w K mg base ["self", "value", "__class__"] ⟨nm, qual, params, initBody p0 p1 p2 p3 p4 p5 p6 p7 p8 p9, scope, [("__class__", cc)], cda⟩ fI A outer s H E) (i := 0) (x := "self") (pos := p6) rfl (.inl lself))
    (pe_var (X := NdefX.ncx (L2.CX P w) P w K mg base ["self", "value", "__class__"] ⟨nm, qual, params, initBody p0 p1 p2 p3 p4 p5 p6 p7 p8 p9, scope, [("__class__", cc)], cda⟩ fI A outer s H E) (i := 1) (x := "value") (pos := p8) rfl (.inl lval)))
  refine wpAny_mono (P2.run [] _ _ H { nx := fun _ H' => Q .non H', rt := Q } J ?_) (fun fl s' hs => ?_) fun e s' hs => hs
  · refine ⟨y, rfl, .ref x, rfl, x, C, rfl, T.ox, T.va, .inl ⟨hx, fun dx n ne => hq dx n ne⟩⟩
  · have fin : ∀ {σ' : L2.St} {H' : Hp} {v : V} {u : Value}, Inv (NdefX.ncx (L2.CX P w) P w K mg base ["self", "value", "__class__"] ⟨nm, qual, params, initBody p0 p1 p2 p3 p4 p5 p6 p7 p8 p9, scope, [("__class__", cc)], cda⟩ fI A outer s H E) [] σ' H' s' → L2.RelV v u → Q v H' → CE outer P w H s Q u s' :=
      fun {σ' H' v u} J rv q => ⟨v, H', J.os, J.bare, J.base, J.hok, rv, q⟩
    cases fl with
    | ret u =>
      obtain ⟨v, σ', H', J, rv, q⟩ := hs
      exact fin J rv q
    | next =>
      obtain ⟨σ', H', J, q⟩ := hs
      exact fin (v := V.non) (u := Value.none) J rfl q
    | brk =>
      obtain ⟨_, _, _, q⟩ := hs
      exact False.elim q
    | cont =>
      obtain ⟨_, _, _, q⟩ := hs
      exact False.elim q
end PV

/-! ## PV: functions as values, exceptions as values -/
namespace PV
open PySem PySem.Spec PyProof.Rows L2

section
variable {X : Cx} {M : Nm} {G : PV.Env} {Wx : WX} {z : Sx} {pos p : Pos} {a b c e : Expr} {es : List Expr} {ca cb cc ce : Xp} {ces : Xps}
theorem e_fnv {k : Nat} {x : Str} {m : Mo} (Z : Cz z X M G Wx) (hf : z.FV[k]? = some x) (hg : glB z.sc x = true) (hn : nmOk x = true) : PE X (.Name x p) (tE G M Wx m (.fnv k)) := by
  obtain ⟨f, h1, h2⟩ := Z.fv k x hf
  refine PE.imp (pe_glob (gl_of Z hg) h1 (v := .ref f) rfl (nm_of hn).1) fun σV H Q h => ?_
  obtain ⟨O, ags, W, σ, S, sit, h⟩ := h
  simp only [evE] at h
  exact h.ok sit.sto _ (RelM.ofF (.inl ⟨rfl, h2⟩))
theorem cal_eq {f : Expr} {xs : List Expr} {env : PySem.Env} (h : calB f = true) : eval (.Call f xs [] pos) env = (do callWith pos (← eval f env) [] (backTo pos (starEach xs env)) (backToKw pos (keywordEach [] env))) := by
  cases f <;> first | (cases h; done) | rfl
theorem fv_of {ar : List Nat} {k : Nat} {x : Str} (h : fvB z ar = true) (hk : z.FV[k]? = some x) : ∃ n q, z.FN[k]? = some (x, n, q) ∧ ar[k]? = some n := by
  have hl : k < z.FV.length := (List.getElem?_eq_some_iff.mp hk).1
  have h := List.all_eq_true.mp h k (List.mem_range.mpr hl)
  split at h
  · rename_i y n q e
    simp only [Bool.and_eq_true, beq_iff_eq] at h
    rw [hk] at h
    obtain ⟨h1, h2⟩ := h
    cases h1
    exact ⟨n, q, e, h2⟩
  · cases h
theorem cfv_core {ar : List Nat} {f : Expr} {m : Mo} (Z : Cz z X M G Wx) (hc : calB f = true) (hne : z.FV ≠ []) (hv : fvB z ar = true) (hf : PE X f (tE G M Wx .now ca)) (ha : PA X es (tA G M Wx true ces)) (hs : es = [] ∧ ces = .nil ∨ ∃ e r, es = e :: r ∧ notStar e = true ∧ ∀ pos, (backTo pos (starEach r X.env)).any (·.1) = false) (hm : m ≠ .frs) :
    PE X (.Call f es [] pos) (tE G M Wx m (.cfv ca ar ces)) := by
  refine ⟨fun pins s σV H Q I h => ?_⟩
  obtain ⟨O, ags, W, σ, S, sit, h⟩ := h
  simp only [evE] at h
  rw [cal_eq hc]
  refine wpAny_bind (thn (hf.run pins s σV H (fun v H1 => ∃ (k : Nat) (O : Adr) (ags1 : List Addr) (W : Nat → Option Addr) (S1 : List D), M.fn k = some v ∧ Sit M O ags1 W σ S1 σV H1 ∧ Pst M O W Wx σV ags1 H1 ((evEs G ces σ S1).bnd fun xs S2 => if ar[k]? = some xs.length then G.fn k xs S2 else .stuck) fun d S' ags' H' => ∀ v, RelM m M O H ags' W H' d v → Q v H') I ⟨O, ags, W, σ, S, sit, (Pst.bnd h).imp fun x S1 ags1 H1 e1 r1 h1 v rv => ?_⟩) fun u s1 hu => ?_)
  · cases x with
    | fn k => exact ⟨k, O, ags1, W, S1, (show RelN M O ags1 W H1 (.fn k) v from rv).fn, sit.ext e1 r1, h1⟩
    | _ => exact h1.elim
  · obtain ⟨v, H1, I1, ru, k, O, ags1, W, S1, hk, sit1, h1⟩ := hu
    have hlt := Z.fo hne k v hk
    obtain ⟨x, hx⟩ : ∃ x, z.FV[k]? = some x := ⟨_, List.getElem?_eq_getElem hlt⟩
    obtain ⟨n, q, hfn, hn⟩ := fv_of hv hx
    obtain ⟨fa0, hm0, hk0⟩ := Z.fv k x hx
    rw [hk] at hk0
    cases hk0
    obtain ⟨fa, h3, h4, c0, ck⟩ := callG (Z.fn k x n q hfn) Z.gd Z.tk
    rw [hm0] at h3
    cases h3
    cases ru
    rcases hs with ⟨rfl, rfl⟩ | ⟨e, r, rfl, hs, hpl⟩
    · simp only [evEs, R.bnd_ok] at h1
      have rv0 : VRs M ags1 (exs O ags1 W) H1 [] [] := rfl
      split at h1
      · rename_i hn2
        rw [hn] at hn2
        cases hn2
        exact PySem.W.callWith_K0 I1.kIn h4 (c0 pins s1 σV H1 [] [] [] [] Q I1 .nil .nil (fin_call hm rfl sit1.sto rv0 h1))
      · exact h1.elim
    · refine PySem.W.callWith_K (h₀ := X.base) I.ok.mod.kin h4 (thn (ha.run pos pins s1 σV H1 (fun vs H2 => rCall M Wx n (G.fn k) vs σV H2 Q) I1 ⟨O, ags1, W, σ, S1, sit1, (Pst.bnd h1).imp fun ds S2 ags2 H2 e2 r2 h2 vs rvs => ?_⟩) fun us s2 ⟨vs, H2, I2, r2, q2⟩ => ⟨I2.kIn, ?_⟩) (star_of hs) (hpl _)
      · have rvs : VRs M ags2 (exs O ags2 W) H2 ds vs := rvs
        split at h2
        · rename_i hn2
          rw [hn] at hn2
          cases hn2
          exact fin_call hm rvs.length r2 rvs h2
        · exact h2.elim
      · exact c0 pins s2 σV H2 vs [] us [] Q I2 r2 .nil q2
/-! ### exceptions as values -/
theorem RelN.exc {O : Adr} {ags : List Addr} {W : Nat → Option Addr} {H : Hp} {k : Nat} {fs : List D} {v : V} (h : RelN M O ags W H (.exc k fs) v) : ∃ C ns us a dx, M.cls k = some (C, ns) ∧ v = .ref a ∧ H a = some (ExZ C dx a) ∧ H dx = some (.xd (ns.zip us)) ∧ ns.length = us.length ∧ VRs M ags (exs O ags W) H fs us := by
  rcases h with h | ⟨a, Ex, e, n, q⟩
  · obtain ⟨C, ns, us, a, dx, h1, h2, h3, h4, h5, h6, h7, h8⟩ := h
    exact ⟨C, ns, us, a, dx, h1, h2, h4, h6, h7, h8⟩
  · exact False.elim q
theorem exz_at {P : Program} {w : World} {H : Hp} {h : Heap} {C dx a : Addr} (hok : HOk P w H h) (he : H a = some (ExZ C dx a)) : ∃ (oe : Obj) (vs : Array Value), h.get? a = some oe ∧ Zc (.ref C) (some dx) oe ∧ oe.data = .fields vs := by
  have x : ObjOk P w H h a (ExZ C dx a) := hok a _ he
  exact x.1
/-- the caught exception lies at a -/
theorem inst_exc {pins : List (Addr × Obj)} {s : Shared} {σV : L2.St} {H : Hp} {C dx a : Addr} {fs : List (Str × V)} (I : Inv X pins σV H s) (e : H a = some (ExZ C dx a)) (ed : H dx = some (.xd fs)) : ∃ oe od mA, PySem.W.InstAt s.heap a oe C (some od) ∧ s.heap.get? dx = some od ∧ s.heap.Ns1 dx mA ∧ ∀ f, RelO (fs.lookup f) (mA f) := by
  obtain ⟨oe, vs, h1, h2, h3⟩ := exz_at I.hok e
  have hx : ObjOk X.prog X.w H s.heap dx (.xd fs) := I.hok dx _ ed
  obtain ⟨mA, hns, hr⟩ := hx
  obtain ⟨od, ho, hl⟩ := lookIn_ns hns
  exact ⟨oe, od, mA, ⟨h1, h2.1, by unfold PySem.W.notCls; rw [h3] <;> rfl, by rw [h2.2]; exact ho⟩, ho, hns, hr⟩
theorem tyOf_not (d : D) (k : Bool) (c : Nat) (h : isxD c d = some k) (hn : ∀ n fs, d ≠ .exc n fs) : tyD .int d ≠ none ∧ k = false ∧ ∀ (K : PySem.W.Frag) (D : Addr), (PySem.W.clsIn K D).isSome = true → PySem.W.typeIn K (.ref D) = some (.type "type") → PySem.W.kitOne K (.type (tyOf d)) (.ref D) = some false ∧ PySem.W.kitOne K (.type (tyOf d)) (.type "ValueError") = some false := by
  have key : ∀ (T : String), (∀ D : Addr, (fastBuiltinMro T).map (·.contains (Value.ref D)) = some false) → kitB T "ValueError" = some false → ∀ (K : PySem.W.Frag) (D : Addr), (PySem.W.clsIn K D).isSome = true → PySem.W.typeIn K (.ref D) = some (.type "type") →
      PySem.W.kitOne K (.type T) (.ref D) = some false ∧ PySem.W.kitOne K (.type T) (.type "ValueError") = some false := fun T h1 h2 K D h3 h4 => by
    refine ⟨?_, kit_ty h2⟩
    unfold PySem.W.kitOne
    have hne : ¬ (Value.type T == Value.ref D) = true := fun z => by have := beq_iff_eq.mp z; cases this
    rw [if_neg hne]
    show (if ((PySem.W.clsIn K D).isSome && PySem.W.typeIn K (.ref D) == some (.type "type")) = true then PySem.W.subIn K (.type T) (.ref D) else none) = _
    rw [if_pos (by rw [h3, h4]; rfl)]
    exact h1 D
  cases d with
  | non => cases h; exact ⟨(fun z => nomatch z), rfl, key "NoneType" (fun _ => by kernel_rfl) (by decide +kernel)⟩
  | bl _ => cases h; exact ⟨(fun z => nomatch z), rfl, key "bool" (fun _ => by kernel_rfl) (by decide +kernel)⟩
  | int _ => cases h; exact ⟨(fun z => nomatch z), rfl, key "int" (fun _ => by kernel_rfl) (by decide +kernel)⟩
  | str _ => cases h; exact ⟨(fun z => nomatch z), rfl, key "str" (fun _ => by kernel_rfl) (by decide +kernel)⟩
  | lst _ => cases h; exact ⟨(fun z => nomatch z), rfl, key "list" (fun _ => by kernel_rfl) (by decide +kernel)⟩
  | tup _ => cases h; exact ⟨(fun z => nomatch z), rfl, key "tuple" (fun _ => by kernel_rfl) (by decide +kernel)⟩
  | dct _ _ => cases h; exact ⟨(fun z => nomatch z), rfl, key "dict" (fun _ => by kernel_rfl) (by decide +kernel)⟩
  | exc n fs => exact absurd rfl (hn n fs)
  | _ => cases h
theorem kit_exc {pins : List (Addr × Obj)} {s : Shared} {σV : L2.St} {O : Adr} {ags : List Addr} {W : Nat → Option Addr} {H : Hp} {d : D} {v : V} {u : Value} {CN : List Str} {c : Nat} {k : Bool} (T : ClsT X.K X.mg M CN) (I : Inv X pins σV H s) (rx : RelV v u) (h : RelN M O ags W H d v) (e : isxD c d = some k) :
    ∃ (tv : Value) (P : Heap → Prop), PySem.W.KitX X.K u tv P ∧ P s.heap ∧ u ≠ .builtin "__main__.__loader__#opaque" ∧ (∀ y, CN[c]? = some y → ∃ D, X.mg y = some (.ref D) ∧ PySem.W.kitOne X.K tv (.ref D) = some k) ∧ (c = 0 → ∀ y, CN[0]? = some y → PySem.W.kitOne X.K tv (.type "ValueError") = some k) := by
  by_cases hd : ∃ n fs, d = .exc n fs
  · obtain ⟨n, fs, rfl⟩ := hd
    obtain ⟨C, ns, us, a, dx, h1, rfl, h4, h6, h7, h8⟩ := h.exc
    cases rx
    obtain ⟨x, hx⟩ := T.only n _ h1
    obtain ⟨C', R⟩ := T.all n x hx
    have hm := R.m
    rw [h1] at hm
    cases hm
    obtain ⟨oe, od, mA, J, _⟩ := inst_exc I h4 h6
    cases e
    refine ⟨.ref C, _, PySem.W.kitx_exc R.cl R.ga R.gg R.ex R.ha T.gt T.tk R.hm, J, (fun z => nomatch z), fun y hy => ?_, fun h0 y hy => ?_⟩
    · obtain ⟨D, g1, _, _, g2, _⟩ := R.su c y hy
      exact ⟨D, g1, g2⟩
    · subst h0
      exact R.kv
  · have hn : ∀ n fs, d ≠ .exc n fs := fun n fs e => hd ⟨n, fs, e⟩
    obtain ⟨t1, rfl, t2⟩ := tyOf_not d k c e hn
    obtain ⟨k', hk'⟩ := Option.ne_none_iff_exists'.mp t1
    obtain ⟨P, Zk, hp, hx⟩ := kit_rel (t := .int) I rx h hk'
    refine ⟨_, P, Zk, hp, hx, fun y hy => ?_, fun h0 y hy => ?_⟩
    · obtain ⟨C', R⟩ := T.all c y hy
      exact ⟨C', R.g, (t2 X.K C' R.cl R.ty).1⟩
    · obtain ⟨C', R⟩ := T.all 0 y hy
      exact (t2 X.K C' R.cl R.ty).2
def rIsX (M : Nm) (c : Nat) (w : V) : List V → Hp → VK → Prop := fun vs H Q => ∃ O ags W d v k, vs = [v, w] ∧ RelN M O ags W H d v ∧ isxD c d = some k ∧ Q (.bl k) H
theorem call_isX {CN : List Str} {c : Nat} {y : Str} {D : Addr} (T : ClsT X.K X.mg M CN) (hy : CN[c]? = some y) (hD : X.mg y = some (.ref D)) : CallR X (.builtin "isinstance") (rIsX M c (.ref D)) := by
  intro pins s σ H xs us Q I r h
  obtain ⟨O, ags, W, d, v, k, rfl, hv, e, q⟩ := h
  obtain ⟨u1, u2, rfl, r1, r2⟩ := vals2 r
  cases (show u2 = Value.ref D from r2)
  obtain ⟨tv, P, Zk, hp, hx, h1, _⟩ := kit_exc T I r1 hv e
  obtain ⟨D', g1, g2⟩ := h1 y hy
  rw [hD] at g1
  cases g1
  exact PySem.W.kia_one Zk I.kIn hp g2 hx fun tk => ⟨.bl k, H, I.tok tk, rfl, q⟩
theorem call_isV {CN : List Str} {y : Str} (T : ClsT X.K X.mg M CN) (hy : CN[0]? = some y) : CallR X (.builtin "isinstance") (rIsX M 0 (.ty "ValueError")) := by
  intro pins s σ H xs us Q I r h
  obtain ⟨O, ags, W, d, v, k, rfl, hv, e, q⟩ := h
  obtain ⟨u1, u2, rfl, r1, r2⟩ := vals2 r
  cases (show u2 = Value.type "ValueError" from r2)
  obtain ⟨tv, P, Zk, hp, hx, _, h1⟩ := kit_exc T I r1 hv e
  exact PySem.W.kia_one Zk I.kIn hp (h1 rfl y hy) hx fun tk => ⟨.bl k, H, I.tok tk, rfl, q⟩
theorem e_isx {c : Nat} {y : Str} {q : Pos} {m : Mo} (Z : Cz z X M G Wx) (hy : z.CN[c]? = some y) (hg : glB z.sc "isinstance" = true) (hg2 : glB z.sc y = true) (hn : nmOk y = true) (ha : PE X a (tE G M Wx .now ca)) (hs : notStar a = true) :
    PE X (.Call (.Name "isinstance" p) [a, .Name y q] [] pos) (tE G M Wx m (.isx ca c)) := by
  have T := Z.ct (fun e => by rw [e] at hy; simp at hy)
  obtain ⟨D, R⟩ := T.all c y hy
  have pt : PE X (.Name y q) (tC (.ref D)) := pe_glob (gl_of Z hg2) R.g rfl (nm_of hn).1
  have args := pa_cons ha (pa_cons pt pa_nil (star_of rfl)) (star_of hs)
  refine PE.imp (pe_callB (call_isX T hy R.g) (gl_of Z hg) (Z.blt _ (by decide)) boot_isi args (by decide) (by decide) (star_of hs) (by rfl)) fun σV H Q h => ?_
  obtain ⟨O, ags, W, σ, S, sit, h⟩ := h
  simp only [evE] at h
  refine ⟨O, ags, W, σ, S, sit, (Pst.bnd h).imp fun x S1 ags1 H1 e1 r1 h1 v rv => ?_⟩
  cases hf : isxD c x with
  | none => rw [hf] at h1; exact h1.elim
  | some k =>
    rw [hf] at h1
    exact ⟨O, ags1, W, x, v, k, rfl, rv, hf, h1.ok r1 _ (RelM.ofF (.inl ⟨rfl, rfl⟩))⟩
theorem e_isv {q : Pos} {m : Mo} (Z : Cz z X M G Wx) (hne : z.CN ≠ []) (hg : glB z.sc "isinstance" = true) (hg2 : glB z.sc "ValueError" = true) (ha : PE X a (tE G M Wx .now ca)) (hs : notStar a = true) :
    PE X (.Call (.Name "isinstance" p) [a, .Name "ValueError" q] [] pos) (tE G M Wx m (.isv ca)) := by
  have T := Z.ct hne
  obtain ⟨y, hy⟩ : ∃ y, z.CN[0]? = some y := by
    cases h : z.CN with
    | nil => exact absurd h hne
    | cons y r => exact ⟨y, rfl⟩
  have pt : PE X (.Name "ValueError" q) (tC (.ty "ValueError")) := pe_bltn (gl_of Z hg2) (Z.blt _ (by decide)) (by first | exact boot_ValueError | decide +kernel) rfl (by decide) (by decide)
  have args := pa_cons ha (pa_cons pt pa_nil (star_of rfl)) (star_of hs)
  refine PE.imp (pe_callB (call_isV T hy) (gl_of Z hg) (Z.blt _ (by decide)) boot_isi args (by decide) (by decide) (star_of hs) (by rfl)) fun σV H Q h => ?_
  obtain ⟨O, ags, W, σ, S, sit, h⟩ := h
  simp only [evE] at h
  refine ⟨O, ags, W, σ, S, sit, (Pst.bnd h).imp fun x S1 ags1 H1 e1 r1 h1 v rv => ?_⟩
  cases hf : isxD 0 x with
  | none => rw [hf] at h1; exact h1.elim
  | some k =>
    rw [hf] at h1
    exact ⟨O, ags1, W, x, v, k, rfl, rv, hf, h1.ok r1 _ (RelM.ofF (.inl ⟨rfl, rfl⟩))⟩
theorem e_xval {m : Mo} (Z : Cz z X M G Wx) (hne : z.CN ≠ []) (hb : baseB a = true) (ha : PE X a (tE G M Wx .now ca)) (hm : m ≠ .frs) : PE X (.Attribute a "value" pos) (tE G M Wx m (.xval ca)) := by
  have T := Z.ct hne
  refine ⟨fun pins s σV H Q I h => ?_⟩
  obtain ⟨O, ags, W, σ, S, sit, h⟩ := h
  simp only [evE] at h
  refine attr_of (base_of hb) (thn (ha.run pins s σV H (fun v H1 => ∃ (ags1 : List Addr) (n : Nat) (x : D), RelN M O ags1 W H1 (.exc n [x]) v ∧ ∀ y, RelM m M O H ags1 W H1 x y → Q y H1) I ⟨O, ags, W, σ, S, sit, (Pst.bnd h).imp fun x S1 ags1 H1 e1 r1 h1 v rv => ?_⟩) fun u s1 hu => ?_)
  · cases hf : xvalD x with
    | none => rw [hf] at h1; exact h1.elim
    | some k =>
      rw [hf] at h1
      unfold xvalD at hf
      split at hf
      · cases hf
        exact ⟨ags1, _, _, rv, h1.ok r1⟩
      · cases hf
  · obtain ⟨v, H1, I1, ru, ags1, n, x, rv, q⟩ := hu
    obtain ⟨C, ns, us, a', dx, h1, rfl, h4, h6, h7, h8⟩ := rv.exc
    cases ru
    obtain ⟨nm, hx⟩ := T.only n _ h1
    obtain ⟨C', R⟩ := T.all n nm hx
    have hm' := R.m
    rw [h1] at hm'
    cases hm'
    obtain ⟨y, r', rfl, hy, e⟩ := h8
    cases (show r' = [] from e)
    obtain ⟨oe, od, mA, J, hod, hns, hr⟩ := inst_exc I1 h4 h6
    obtain ⟨od', ho, hl⟩ := lookIn_ns hns
    rw [hod] at ho
    cases ho
    obtain ⟨u, hu, ry⟩ := RelO.some_of (v := y) (o := mA "value") (hr "value")
    refine HandSPX.exc_get I1.kIn J R.ga R.gg R.ex (PySem.W.findObj_own R.hd R.va rfl (by rw [hl, hu])) (handed_of ry) ⟨y, H1, I1.tok _, ry, q y ?_⟩
    cases m with
    | now => exact .inl hy
    | bor => exact .inl hy
    | cap => exact hy
    | frs => exact absurd rfl hm
def rIs2 (M : Nm) (t u : Ty) : List V → Hp → VK → Prop := fun vs H Q => ∃ O ags W d v k p, vs = [v, .ref p] ∧ H p = some (.tup [.ty (tyS t), .ty (tyS u)]) ∧ RelN M O ags W H d v ∧ tyD2 t u d = some k ∧ Q (.bl k) H
theorem tyD2_of {t u : Ty} {d : D} {k : Bool} (h : tyD2 t u d = some k) : ∃ a b, tyD t d = some a ∧ tyD u d = some b ∧ k = (a || b) := by
  unfold tyD2 at h
  obtain ⟨a, ha, h⟩ := Option.bind_eq_some_iff.mp h
  obtain ⟨b, hb, rfl⟩ := Option.map_eq_some_iff.mp h
  exact ⟨a, b, ha, hb, rfl⟩
theorem call_is2 {t u : Ty} (ht : tyB t = true) (hu : tyB u = true) : CallR X (.builtin "isinstance") (rIs2 M t u) := by
  intro pins s σ H xs us Q I r h
  obtain ⟨O, ags, W, d, v, k, p, rfl, hp, hv, e, q⟩ := h
  obtain ⟨u1, u2, rfl, r1, r2⟩ := vals2 r
  cases (show u2 = Value.ref p from r2)
  obtain ⟨ka, kb, ea, eb, rfl⟩ := tyD2_of e
  obtain ⟨P, Zk, hP, hx⟩ := kit_rel I r1 hv ea
  obtain ⟨_, its, rv, o, h1, h2, n, h3⟩ := (show ObjOk X.prog X.w H s.heap p (.tup [.ty (tyS t), .ty (tyS u)]) from I.hok p _ hp)
  have e3 : its = [.type (tyS t), .type (tyS u)] := by
    obtain ⟨w1, w2, rfl, q1, q2⟩ := vals2 rv
    cases (show w1 = _ from q1)
    cases (show w2 = _ from q2)
    rfl
  subst e3
  obtain ⟨oc, od, dt, sl⟩ := o
  simp only at h2 h3
  subst h2 h3
  have main : PySem.W.kitAny X.K (.type (tyOf d)) [.type (tyS t), .type (tyS u)] = some (ka || kb) := by
    refine kitAny_cons (kit_ans2 ht ea) (fun z => ?_) (fun z => by rw [z]; rfl)
    subst z
    refine kitAny_cons (kit_ans2 hu eb) (fun z => ?_) (fun z => by rw [z]; rfl)
    subst z
    rfl
  exact PySem.W.kia_tup Zk I.kIn hP h1 main hx fun tk => ⟨.bl _, H, I.tok tk, rfl, q⟩
theorem e_isi2 {t u : Ty} {m : Mo} {q q2 q3 : Pos} {k3 : Nat} (Z : Cz z X M G Wx) (ht : tyB t = true) (hu : tyB u = true) (hg : glB z.sc "isinstance" = true) (hg2 : glB z.sc (tyN t) = true) (hg3 : glB z.sc (tyN u) = true) (ha : PE X a (tE G M Wx .bor ca)) (hs : notStar a = true) :
    PE X (.Call (.Name "isinstance" p) [a, .Tuple [.Name (tyN t) q, .Name (tyN u) q2] k3 q3] [] pos) (tE G M Wx m (.isi2 ca t u)) := by
  have pt : ∀ {t : Ty} {q : Pos}, tyB t = true → glB z.sc (tyN t) = true → PE X (.Name (tyN t) q) (tC (.ty (tyS t))) := fun {t q} ht hg2 => pe_bltn (gl_of Z hg2) (Z.blt _ (by cases t <;> first | (cases ht; done) | decide)) (boot_ty ht) rfl (by cases t <;> first | (cases ht; done) | decide) (by cases t <;> first | (cases ht; done) | decide)
  have tp := pe_tup (x1 := k3) (pos := q3) (pa_cons (pt ht hg2 (q := q)) (pa_cons (pt hu hg3 (q := q2)) pa_nil (star_of rfl)) (star_of rfl))
  have args := pa_cons ha (pa_cons tp pa_nil (star_of rfl)) (star_of hs)
  refine PE.imp (pe_callB (call_is2 (M := M) ht hu) (gl_of Z hg) (Z.blt _ (by decide)) boot_isi args (by decide) (by decide) (star_of hs) (by rfl)) fun σV H Q h => ?_
  obtain ⟨O, ags, W, σ, S, sit, h⟩ := h
  simp only [evE] at h
  refine ⟨O, ags, W, σ, S, sit, (Pst.bnd h).imp fun x S1 ags1 H1 e1 r1 h1 v rv => ?_⟩
  cases hf : tyD2 t u x with
  | none => rw [hf] at h1; exact h1.elim
  | some k =>
    rw [hf] at h1
    refine ⟨by show 2 ≤ sizeLine; rw [sizeLine_eq]; omega, fun p hp => ?_⟩
    have rv : RelB M O ags1 W H1 x v := rv
    exact ⟨O, ags1, W, x, v, k, p, rfl, upd_same, (rv.ext (Ext.upd hp)).n, hf, h1 _ _ (Ext.upd hp) (r1.upd hp) _ (RelM.ofF (.inl ⟨rfl, rfl⟩))⟩
end
end PV

/-! ## PV: targets, walks, comprehensions -/
namespace PV
open PySem PySem.Spec PyProof.Rows L2

/-! ### states go on -/
section
variable {M : Nm} {O O' : Adr} {ags ags' : List Addr} {W : Nat → Option Addr} {H H' : Hp} {σ : Sg} {S S' : List D} {σV : L2.St}
theorem SR.edom (r : SR M O ags W H S) {a : Addr} (h : exs O ags W a) : H a ≠ none := by
  rcases h with h | h | ⟨i, h⟩
  · exact r.on a h
  · exact r.adom h
  · exact (r.wn i a h).2.2
theorem Sit.extL (s : Sit M O ags W σ S σV H) (l : Le ags (exs O ags W) H ags' (exs O' ags' W) H') (hw : ∀ i a, W i = some a → H' a = H a) (r : SR M O' ags' W H' S') : Sit M O' ags' W σ S' σV H' := by
  refine ⟨s.len, fun i d h => ?_, fun i d h => ?_, s.inj, r⟩
  · obtain ⟨v, e1, q⟩ := s.val i d h
    exact ⟨v, e1, VR.le l _ _ q⟩
  · obtain ⟨a, hw', e1, q⟩ := s.own i d h
    exact ⟨a, hw', e1, OwnR.le l (hw i a hw') q⟩
theorem Sit.set (s : Sit M O ags W σ S σV H) (i : Nat) {d : D} {v : V} (h : VR M ags (exs O ags W) H d v) : Sit M O ags W (σ.set i (.val d)) S (σV.set i (some v)) H := by
  refine ⟨by rw [List.length_set, List.length_set]; exact s.len, fun j e hj => ?_, fun j e hj => ?_, s.inj, s.sto⟩
  · rw [List.getElem?_set] at hj
    by_cases hij : i = j
    · subst hij
      rw [if_pos rfl] at hj
      split at hj
      · rename_i hl
        cases hj
        exact ⟨v, by rw [List.getElem?_set_self (by rw [s.len]; exact hl)], h⟩
      · cases hj
    · rw [if_neg hij] at hj
      obtain ⟨w, e1, q⟩ := s.val j e hj
      exact ⟨w, by rw [List.getElem?_set_ne hij]; exact e1, q⟩
  · rw [List.getElem?_set] at hj
    by_cases hij : i = j
    · subst hij
      rw [if_pos rfl] at hj
      split at hj <;> cases hj
    · rw [if_neg hij] at hj
      obtain ⟨a, hw, e1, q⟩ := s.own j e hj
      exact ⟨a, hw, by rw [List.getElem?_set_ne hij]; exact e1, q⟩
theorem Sit.unset (s : Sit M O ags W σ S σV H) (i : Nat) : Sit M O ags W (σ.set i .un) S (σV.set i none) H := by
  refine ⟨by rw [List.length_set, List.length_set]; exact s.len, fun j e hj => ?_, fun j e hj => ?_, s.inj, s.sto⟩
  · rw [List.getElem?_set] at hj
    by_cases hij : i = j
    · subst hij
      rw [if_pos rfl] at hj
      split at hj <;> cases hj
    · rw [if_neg hij] at hj
      obtain ⟨w, e1, q⟩ := s.val j e hj
      exact ⟨w, by rw [List.getElem?_set_ne hij]; exact e1, q⟩
  · rw [List.getElem?_set] at hj
    by_cases hij : i = j
    · subst hij
      rw [if_pos rfl] at hj
      split at hj <;> cases hj
    · rw [if_neg hij] at hj
      obtain ⟨a, hw, e1, q⟩ := s.own j e hj
      exact ⟨a, hw, by rw [List.getElem?_set_ne hij]; exact e1, q⟩
theorem Sit.wipe (s : Sit M O ags W σ S σV H) : ∀ vs : List Nat, Sit M O ags W (wipeG σ vs) S (L2.wipe σV vs) H
  | [] => s
  | v :: vs => (Sit.wipe s vs).unset v
end
theorem wipe_set (σV : L2.St) (i : Nat) (x : Option V) : ∀ vs : List Nat, (i ∈ vs → L2.wipe (σV.set i x) vs = L2.wipe σV vs) ∧ (i ∉ vs → L2.wipe (σV.set i x) vs = (L2.wipe σV vs).set i x)
  | [] => ⟨fun h => (nomatch h), fun _ => rfl⟩
  | v :: vs => by
    obtain ⟨h1, h2⟩ := wipe_set σV i x vs
    refine ⟨fun h => ?_, fun h => ?_⟩
    · show (L2.wipe (σV.set i x) vs).set v none = (L2.wipe σV vs).set v none
      by_cases hi : i ∈ vs
      · rw [h1 hi]
      · rw [h2 hi]
        rcases List.mem_cons.mp h with e | e
        · subst e; rw [List.set_set]
        · exact absurd e hi
    · show (L2.wipe (σV.set i x) vs).set v none = ((L2.wipe σV vs).set v none).set i x
      simp only [List.mem_cons, not_or] at h
      rw [h2 h.2, List.set_comm _ _ h.1]

/-! ### targets -/
theorem PG.imp {X : Cx} {e : Expr} {t t' : TG} (h : PG X e t) (k : ∀ v σ H Q, t' v σ H Q → t v σ H Q) : PG X e t' := ⟨fun pins s σ H v u Q I r q => h.run pins s σ H v u Q I r (k _ _ _ _ q)⟩
def tG (M : Nm) (t : Tg) : TG := fun v σV H N => ∃ O ags W σ S d σ', Sit M O ags W σ S σV H ∧ VR M ags (exs O ags W) H d v ∧ setT t d σ = some σ' ∧
  ∀ σV', Sit M O ags W σ' S σV' H → (∀ vs, (∀ i ∈ tgS t, i ∈ vs) → L2.wipe σV' vs = L2.wipe σV vs) → N σV' H
section
variable {X : Cx} {M : Nm} {z : Sx} {pos : Pos}
theorem g_nm {i : Nat} {x : Str} (hnd : X.N.Nodup) (hi : X.N[i]? = some x) (hx : Loc X.env.scope x) (hf : X.fn x = true ∨ X.env.scope.names.lookup x = some .local) : PG X (.Name x pos) (tG M (.nm i)) := by
  refine PG.imp (pg_name hnd hi hx hf) fun v σV H N h => ?_
  obtain ⟨O, ags, W, σ, S, d, σ', sit, hv, hs, q⟩ := h
  cases hs
  exact q _ (sit.set i hv) fun vs hm => (wipe_set σV i (some v) vs).1 (hm i (List.mem_singleton.mpr rfl))
theorem asg_of {e : Expr} {es : List Expr} {env : PySem.Env} (h : notStar e = true) : assignEach (e :: es) env = (false, assign e env) :: assignEach es env := by
  cases e <;> first | rfl | cases h
theorem setT_tp2 {a b : Tg} {d : D} {σ σ' : Sg} (h : setT (.tp2 a b) d σ = some σ') : ∃ x y, d = .tup [x, y] ∧ (setT a x σ).bind (setT b y) = some σ' := by
  cases d <;> first | (cases h; done) | skip
  rename_i xs
  match xs, h with
  | [x, y], h => exact ⟨x, y, rfl, h⟩
  | [], h => cases h
  | [_], h => cases h
  | _ :: _ :: _ :: _, h => cases h
theorem setT_tp3 {a b c : Tg} {d : D} {σ σ' : Sg} (h : setT (.tp3 a b c) d σ = some σ') : ∃ x y w, d = .tup [x, y, w] ∧ ((setT a x σ).bind (setT b y)).bind (setT c w) = some σ' := by
  cases d <;> first | (cases h; done) | skip
  rename_i xs
  match xs, h with
  | [x, y, w], h => exact ⟨x, y, w, rfl, h⟩
  | [], h => cases h
  | [_], h => cases h
  | [_, _], h => cases h
  | _ :: _ :: _ :: _ :: _, h => cases h
theorem g_tp2 {a b : Tg} {x y : Expr} {k : Nat} (hc : X.calm = true) (h1 : PG X x (tG M a)) (h2 : PG X y (tG M b)) (hx : notStar x = true) (hy : notStar y = true) : PG X (.Tuple [x, y] k pos) (tG M (.tp2 a b)) := by
  have e2 : assignEach [y] X.env = [(false, assign y X.env)] := by rw [asg_of hy]; rfl
  have e1 : assignEach [x, y] X.env = [(false, assign x X.env), (false, assign y X.env)] := by rw [asg_of hx, e2]
  refine PG.imp (pg_tup (n := 2) hc (pgs_cons h1 (pgs_cons h2 pgs_nil (by rw [e2]; rfl)) (by rw [e1, e2]; rfl)) (by rw [e1]; rfl) (by rw [e1]; rfl)) fun v σV H N h => ?_
  obtain ⟨O, ags, W, σ, S, d, σ', sit, hv, hs, q⟩ := h
  obtain ⟨d1, d2, rfl, hs⟩ := setT_tp2 hs
  · obtain ⟨σ1, s1, s2⟩ := Option.bind_eq_some_iff.mp hs
    obtain ⟨p, vs, rfl, _, hp, v1, r1, rfl, q1, v2, r2, rfl, q2, e⟩ := hv
    cases (show r2 = [] from e)
    refine ⟨p, [v1, v2], rfl, .inl (.inl hp), rfl, v1, [v2], rfl, O, ags, W, σ, S, d1, σ1, sit, q1, s1, fun σV1 sit1 w1 => ⟨v2, [], rfl, O, ags, W, σ1, S, d2, σ', sit1, q2, s2, fun σV2 sit2 w2 => ⟨rfl, q σV2 sit2 fun vs hm => ?_⟩⟩⟩
    rw [w2 vs fun i hi => hm i (List.mem_append_right _ hi), w1 vs fun i hi => hm i (List.mem_append_left _ hi)]
theorem g_tp3 {a b c : Tg} {x y w : Expr} {k : Nat} (hc : X.calm = true) (h1 : PG X x (tG M a)) (h2 : PG X y (tG M b)) (h3 : PG X w (tG M c)) (hx : notStar x = true) (hy : notStar y = true) (hw : notStar w = true) : PG X (.Tuple [x, y, w] k pos) (tG M (.tp3 a b c)) := by
  have e3 : assignEach [w] X.env = [(false, assign w X.env)] := by rw [asg_of hw]; rfl
  have e2 : assignEach [y, w] X.env = [(false, assign y X.env), (false, assign w X.env)] := by rw [asg_of hy, e3]
  have e1 : assignEach [x, y, w] X.env = [(false, assign x X.env), (false, assign y X.env), (false, assign w X.env)] := by rw [asg_of hx, e2]
  refine PG.imp (pg_tup (n := 3) hc (pgs_cons h1 (pgs_cons h2 (pgs_cons h3 pgs_nil (by rw [e3]; rfl)) (by rw [e2, e3]; rfl)) (by rw [e1, e2]; rfl)) (by rw [e1]; rfl) (by rw [e1]; rfl)) fun v σV H N h => ?_
  obtain ⟨O, ags, W, σ, S, d, σ', sit, hv, hs, q⟩ := h
  obtain ⟨d1, d2, d3, rfl, hs⟩ := setT_tp3 hs
  · obtain ⟨σ2, s12, s3⟩ := Option.bind_eq_some_iff.mp hs
    obtain ⟨σ1, s1, s2⟩ := Option.bind_eq_some_iff.mp s12
    obtain ⟨p, vs, rfl, _, hp, v1, r1, rfl, q1, v2, r2, rfl, q2, v3, r3, rfl, q3, e⟩ := hv
    cases (show r3 = [] from e)
    refine ⟨p, [v1, v2, v3], rfl, .inl (.inl hp), rfl, v1, [v2, v3], rfl, O, ags, W, σ, S, d1, σ1, sit, q1, s1, fun σV1 sit1 w1 => ⟨v2, [v3], rfl, O, ags, W, σ1, S, d2, σ2, sit1, q2, s2, fun σV2 sit2 w2 =>
      ⟨v3, [], rfl, O, ags, W, σ2, S, d3, σ', sit2, q3, s3, fun σV3 sit3 w3 => ⟨rfl, q σV3 sit3 fun vs hm => ?_⟩⟩⟩⟩
    rw [w3 vs fun i hi => hm i (List.mem_append_right _ hi), w2 vs fun i hi => hm i (List.mem_append_left _ (List.mem_append_right _ hi)), w1 vs fun i hi => hm i (List.mem_append_left _ (List.mem_append_left _ hi))]
theorem locB_of (h : locB z x = true) (he : X.env.scope = z.sc) (hf : ∀ x, z.fnB x = true → X.fn x = true) : Loc X.env.scope x ∧ (X.fn x = true ∨ X.env.scope.names.lookup x = some .local) := by
  unfold locB at h
  rw [he]
  simp only [Bool.or_eq_true, Bool.and_eq_true, beq_iff_eq] at h
  rcases h with h | ⟨h, k⟩
  · exact ⟨.inl h, .inr h⟩
  · exact ⟨.inr h, .inl (hf _ k)⟩
theorem sG (hc : X.calm = true) (hnd : X.N.Nodup) (hN : X.N = z.N) (he : X.env.scope = z.sc) (hf : ∀ x, z.fnB x = true → X.fn x = true) : ∀ (t : Tg) (e : Expr), mT z t e = true → PG X e (tG M t)
  | .nm i, e, h => by
    cases e <;> first | (cases h; done) | skip
    rename_i x p
    have h : (z.N[i]? == some x && locB z x && nmOk x) = true := h
    simp only [Bool.and_eq_true, beq_iff_eq] at h
    obtain ⟨h1, h2⟩ := locB_of h.1.2 he hf
    exact g_nm hnd (by rw [hN]; exact h.1.1) h1 h2
  | .tp2 a b, e, h => by
    cases e <;> first | (cases h; done) | skip
    rename_i xs k p
    match xs, h with
    | [x, y], h =>
      have h : (mT z a x && mT z b y && notStar x && notStar y) = true := h
      simp only [Bool.and_eq_true] at h
      exact g_tp2 hc (sG hc hnd hN he hf a _ h.1.1.1) (sG hc hnd hN he hf b _ h.1.1.2) h.1.2 h.2
    | [], h => cases h
    | [_], h => cases h
    | _ :: _ :: _ :: _, h => cases h
  | .tp3 a b c, e, h => by
    cases e <;> first | (cases h; done) | skip
    rename_i xs k p
    match xs, h with
    | [x, y, w], h =>
      have h : (mT z a x && mT z b y && mT z c w && notStar x && notStar y && notStar w) = true := h
      simp only [Bool.and_eq_true] at h
      exact g_tp3 hc (sG hc hnd hN he hf a _ h.1.1.1.1.1) (sG hc hnd hN he hf b _ h.1.1.1.1.2) (sG hc hnd hN he hf c _ h.1.1.1.2) h.1.1.2 h.1.2 h.2
    | [], h => cases h
    | [_], h => cases h
    | [_, _], h => cases h
    | _ :: _ :: _ :: _ :: _, h => cases h
end

/-! ### walks -/
section
variable {M : Nm} {ags : List Addr} {Ex : Adr} {H : Hp}
theorem Le.upd {ags : List Addr} {Ex : Adr} {H : Hp} {p : Addr} {o : HO} (h : H p = none) : Le ags Ex H ags Ex (upd H p o) :=
  ⟨List.prefix_refl _, fun _ _ z => z, fun a u _ e => by rw [upd_ne (ne_of_none e h)]; exact e⟩
theorem itd_list {a : Addr} {ds : List D} {vs : List V} (ha : H a = some (.lst vs)) (n : ¬ Ex a) (hv : VRs M ags Ex H ds vs) (K : PySem.W.Frag) : ItD M ags Ex H (Itl K a) ds := by
  intro ags' Ex' H' l dom i
  have ha' := l.same a _ n ha
  have hv' := VRs.le l _ _ hv
  refine ⟨fun hi => ⟨vs, .inl (.inl ha'), by rw [hv.length]; exact hi⟩, fun d hd => ?_⟩
  obtain ⟨v, e, r⟩ := hv'.get hd
  refine ⟨⟨vs, v, .inl (.inl ha'), e⟩, fun x H'' y => ?_⟩
  obtain ⟨rfl, y⟩ := y
  have := y vs (.inl (.inl ha'))
  rw [e] at this
  cases this
  exact ⟨r, .inl rfl⟩
theorem itd_tup {a : Addr} {ds : List D} {vs : List V} (ha : H a = some (.tup vs)) (n : ¬ Ex a) (hv : VRs M ags Ex H ds vs) (K : PySem.W.Frag) : ItD M ags Ex H (Itt K a) ds := by
  intro ags' Ex' H' l dom i
  have ha' := l.same a _ n ha
  have hv' := VRs.le l _ _ hv
  refine ⟨fun hi => ⟨vs, .inl (.inl ha'), by rw [hv.length]; exact hi⟩, fun d hd => ?_⟩
  obtain ⟨v, e, r⟩ := hv'.get hd
  refine ⟨⟨vs, v, .inl (.inl ha'), e⟩, fun x H'' y => ?_⟩
  obtain ⟨rfl, y⟩ := y
  have := y vs (.inl (.inl ha'))
  rw [e] at this
  cases this
  exact ⟨r, .inl rfl⟩
theorem itd_str {x : List Nat} (g : Good x) : ItD M ags Ex H (Its ⟨x.toArray⟩) (x.map fun c => .str [c]) := by
  intro ags' Ex' H' l dom i
  refine ⟨fun hi => by rw [List.length_map] at hi; show x.toArray.size ≤ i; rw [List.size_toArray]; exact hi, fun d hd => ?_⟩
  rw [List.getElem?_map] at hd
  obtain ⟨c, e, rfl⟩ := Option.map_eq_some_iff.mp hd
  have hl := (List.getElem?_eq_some_iff.mp e).1
  refine ⟨by show i < x.toArray.size; rw [List.size_toArray]; exact hl, fun v H'' y => ?_⟩
  obtain ⟨rfl, c', e', rfl⟩ := y
  have e' : x[i]? = some c' := by simpa using e'
  rw [e] at e'
  cases e'
  refine ⟨⟨rfl, ?_, fun c' h => ?_⟩, .inl rfl⟩
  · rw [sizeLine_eq]; show 1 ≤ _; omega
  · cases List.mem_singleton.mp h; exact g.ok c (List.mem_of_getElem? e)
theorem itd_rng (lo : Int) (n : Nat) : ItD M ags Ex H (Itr lo n) ((List.range n).map fun (k : Nat) => .int (lo + (k : Int))) := by
  intro ags' Ex' H' l dom i
  refine ⟨fun hi => by show n ≤ i; simpa using hi, fun d hd => ?_⟩
  rw [List.getElem?_map] at hd
  obtain ⟨k, e, rfl⟩ := Option.map_eq_some_iff.mp hd
  obtain ⟨hl, e⟩ := List.getElem?_eq_some_iff.mp e
  rw [List.getElem_range] at e
  subst e
  refine ⟨by show i < n; simpa using hl, fun v H'' y => ?_⟩
  obtain ⟨rfl, rfl⟩ := y
  exact ⟨rfl, .inl rfl⟩
theorem itd_zip {a b : Addr} {ds es : List D} {vs ws : List V} (ha : H a = some (.lst vs)) (na : ¬ Ex a) (hv : VRs M ags Ex H ds vs) (hb : H b = some (.lst ws)) (nb : ¬ Ex b) (hw : VRs M ags Ex H es ws) (K : PySem.W.Frag) :
    ItD M ags Ex H (Itz K a b) (List.zipWith (fun x y => .tup [x, y]) ds es) := by
  intro ags' Ex' H' l dom i
  have ha' := l.same a _ na ha
  have hb' := l.same b _ nb hb
  have hv' := VRs.le l _ _ hv
  have hw' := VRs.le l _ _ hw
  refine ⟨fun hi => ⟨vs, ws, .inl (.inl ha'), .inl (.inl hb'), ?_⟩, fun d hd => ?_⟩
  · rw [List.length_zipWith] at hi
    rw [hv.length, hw.length]
    omega
  · rw [List.getElem?_zipWith] at hd
    cases e1 : ds[i]? with
    | none => rw [e1] at hd; cases hd
    | some x =>
      cases e2 : es[i]? with
      | none => rw [e1, e2] at hd; cases hd
      | some y =>
        rw [e1, e2] at hd
        cases hd
        obtain ⟨v, q1, r1⟩ := hv'.get e1
        obtain ⟨w, q2, r2⟩ := hw'.get e2
        refine ⟨⟨vs, ws, v, w, .inl (.inl ha'), .inl (.inl hb'), q1, q2⟩, fun u H'' yy => ?_⟩
        obtain ⟨T, x', y', rfl, hT, rfl, y1, y2⟩ := yy
        have z1 := y1 vs (.inl (.inl ha'))
        have z2 := y2 ws (.inl (.inl hb'))
        rw [q1] at z1; rw [q2] at z2
        cases z1; cases z2
        refine ⟨⟨T, [v, w], rfl, fun z => dom T z hT, upd_same, ?_⟩, .inr ⟨T, _, hT, rfl⟩⟩
        have p : VRs M ags' Ex' H' [x, y] [v, w] := ⟨v, [w], rfl, r1, VRs.one r2⟩
        exact VRs.le (Le.upd hT) _ _ p
theorem itd_zipT {a b : Addr} {ds es : List D} {vs ws : List V} (ha : H a = some (.tup vs)) (na : ¬ Ex a) (hv : VRs M ags Ex H ds vs) (hb : H b = some (.tup ws)) (nb : ¬ Ex b) (hw : VRs M ags Ex H es ws) (K : PySem.W.Frag) :
    ItD M ags Ex H (RZ.ItzT K a b) (List.zipWith (fun x y => .tup [x, y]) ds es) := by
  intro ags' Ex' H' l dom i
  have ha' := l.same a _ na ha
  have hb' := l.same b _ nb hb
  have hv' := VRs.le l _ _ hv
  have hw' := VRs.le l _ _ hw
  refine ⟨fun hi => ⟨vs, ws, .inl (.inl ha'), .inl (.inl hb'), ?_⟩, fun d hd => ?_⟩
  · rw [List.length_zipWith] at hi
    rw [hv.length, hw.length]
    omega
  · rw [List.getElem?_zipWith] at hd
    cases e1 : ds[i]? with
    | none => rw [e1] at hd; cases hd
    | some x =>
      cases e2 : es[i]? with
      | none => rw [e1, e2] at hd; cases hd
      | some y =>
        rw [e1, e2] at hd
        cases hd
        obtain ⟨v, q1, r1⟩ := hv'.get e1
        obtain ⟨w, q2, r2⟩ := hw'.get e2
        refine ⟨⟨vs, ws, v, w, .inl (.inl ha'), .inl (.inl hb'), q1, q2⟩, fun u H'' yy => ?_⟩
        obtain ⟨T, x', y', rfl, hT, rfl, y1, y2⟩ := yy
        have z1 := y1 vs (.inl (.inl ha'))
        have z2 := y2 ws (.inl (.inl hb'))
        rw [q1] at z1; rw [q2] at z2
        cases z1; cases z2
        refine ⟨⟨T, [v, w], rfl, fun z => dom T z hT, upd_same, ?_⟩, .inr ⟨T, _, hT, rfl⟩⟩
        have p : VRs M ags' Ex' H' [x, y] [v, w] := ⟨v, [w], rfl, r1, VRs.one r2⟩
        exact VRs.le (Le.upd hT) _ _ p
theorem enumFrom_get : ∀ (ds : List D) (n i : Nat), (enumFrom n ds)[i]? = (ds[i]?).map fun d => .tup [.int ((n + i : Nat) : Int), d]
  | [], _, _ => by simp [enumFrom]
  | d :: ds, n, 0 => rfl
  | d :: ds, n, i + 1 => by
    show (enumFrom (n + 1) ds)[i]? = (ds[i]?).map _
    rw [enumFrom_get ds (n + 1) i]
    have e : n + 1 + i = n + (i + 1) := by omega
    rw [e]
theorem enumFrom_len : ∀ (ds : List D) (n : Nat), (enumFrom n ds).length = ds.length
  | [], _ => rfl
  | d :: ds, n => by simp [enumFrom, enumFrom_len ds]
theorem itd_enm {a : Addr} {ds : List D} {vs : List V} (ha : H a = some (.lst vs)) (n : ¬ Ex a) (hv : VRs M ags Ex H ds vs) (K : PySem.W.Frag) : ItD M ags Ex H (Ite K a) (enumFrom 0 ds) := by
  intro ags' Ex' H' l dom i
  have ha' := l.same a _ n ha
  have hv' := VRs.le l _ _ hv
  refine ⟨fun hi => ⟨vs, .inl (.inl ha'), by rw [hv.length, ← enumFrom_len ds 0]; exact hi⟩, fun d hd => ?_⟩
  rw [enumFrom_get] at hd
  obtain ⟨x, e, rfl⟩ := Option.map_eq_some_iff.mp hd
  obtain ⟨v, q, r⟩ := hv'.get e
  refine ⟨⟨vs, v, .inl (.inl ha'), q⟩, fun u H'' yy => ?_⟩
  obtain ⟨T, x', rfl, hT, rfl, y1⟩ := yy
  have z1 := y1 vs (.inl (.inl ha'))
  rw [q] at z1
  cases z1
  refine ⟨⟨T, [.int i, v], rfl, fun z => dom T z hT, upd_same, ?_⟩, .inr ⟨T, _, hT, rfl⟩⟩
  have p : VRs M ags' Ex' H' [.int ((0 + i : Nat) : Int), x] [.int i, v] := ⟨.int i, [v], rfl, by rw [Nat.zero_add]; rfl, VRs.one r⟩
  exact VRs.le (Le.upd hT) _ _ p
end
section
variable {X : Cx} {M : Nm} {G : PV.Env} {Wx : WX} {z : Sx} {pos p : Pos} {a b c e tg : Expr} {es : List Expr} {ca cb cc ce : Xp} {ces : Xps}
theorem i_seq (he : PE X e (tE G M Wx .cap ce)) : PI X tg e (tI G M Wx (.seq ce)) := by
  refine ⟨fun pins s σV H RR I h => ?_⟩
  obtain ⟨O, ags, W, σ, S, sit, h⟩ := h
  simp only [evI] at h
  refine thn (he.run pins s σV H (fun v H1 => ∃ d S1 ags1, SR M O ags1 W H1 S1 ∧ VR M ags1 (exs O ags1 W) H1 d v ∧ Pst M O W Wx σV ags1 H1 (R.lif (iterD d) S1) fun xs S' ags' H' => ∀ J, xs.length ≤ sizeLine → ItD M ags' (exs O ags' W) H' J xs → RR J H') I
    ⟨O, ags, W, σ, S, sit, (Pst.bnd h).imp fun x S1 ags1 H1 e1 r1 h1 v rv => ⟨x, S1, ags1, r1, rv, h1⟩⟩) fun u s1 ⟨v, H1, I1, ru, d, S1, ags1, sr, rv, h1⟩ => ?_
  cases d with
  | lst ds =>
    obtain ⟨l, vs, rfl, n, ha, hv⟩ := rv
    cases ru
    obtain ⟨its, rvs, pl, hz⟩ := I1.list (.inl (.inl ha))
    exact wpAny_pyIter_list pl.isList (pi_one (tk := s1.toks) I1 _ (turn_list l _) ⟨_, Heap.get?_push_size _ rfl, rfl, rfl⟩ (h1.ok sr _ (by rw [← hv.length]; exact hz) (itd_list ha n hv _)))
  | tup ds =>
    obtain ⟨l, vs, rfl, n, ha, hv⟩ := rv
    cases ru
    obtain ⟨its, rvs, pl, hz⟩ := I1.tuple (.inl (.inl ha))
    exact wpAny_pyIter_tuple (show s1.heap.IsTuple l its.toArray from pl) (pi_one (tk := s1.toks) I1 _ (turn_tuple l _) ⟨_, Heap.get?_push_size _ rfl, rfl, rfl⟩ (h1.ok sr _ (by rw [← hv.length]; exact hz) (itd_tup ha n hv _)))
  | str x =>
    obtain ⟨rfl, g⟩ := rv
    obtain ⟨t, rfl⟩ := ru
    have q := h1.ok sr (Its ⟨x.toArray⟩) (by rw [List.length_map]; exact g.len) (itd_str g)
    cases hasc : (⟨x.toArray⟩ : Str).cps.all (· < 128)
    · exact wpAny_pyIter_wide hasc (pi_one (tk := s1.toks) I1 _ (turn_str _ _ t "str_iterator" (.inr rfl)) ⟨_, Heap.get?_push_size _ rfl, rfl, rfl⟩ q)
    · exact wpAny_pyIter_ascii hasc (pi_one (tk := s1.toks) I1 _ (turn_str _ _ t "str_ascii_iterator" (.inl rfl)) ⟨_, Heap.get?_push_size _ rfl, rfl, rfl⟩ q)
  | _ => exact h1.elim
theorem i_rng1 (Z : Cz z X M G Wx) (hg : glB z.sc "range" = true) (ha : PA X [a] (tA G M Wx false ces)) (hs : notStar a = true) (hl : lenEs ces = 1) : PI X tg (.Call (.Name "range" p) [a] [] pos) (tI G M Wx (.rng ces)) := by
  refine PI.imp (pi_range1 (gl_of Z hg) (Z.blt _ (by decide)) ha (star_of hs)) fun σV H R h => ?_
  obtain ⟨O, ags, W, σ, S, sit, h⟩ := h
  simp only [evI] at h
  refine ⟨O, ags, W, σ, S, sit, (Pst.bnd h).impE fun ds S1 ags1 H1 hE e1 r1 h1 vs rvs => ?_⟩
  have rvs : RelNs M O ags1 W H1 ds vs := rvs
  have hl1 := (evEs_len _ hE).trans hl
  unfold rangeD at h1
  split at h1
  · rename_i n _
    obtain ⟨w, rfl, rw'⟩ := rvs.one
    cases rw'.int
    split at h1
    · rename_i hn
      refine ⟨n, rfl, hn.1, by have : n ≤ 16777216 := hn.2; show n < 4611686018427387904; omega, h1.ok r1 _ ?_ ?_⟩
      · rw [List.length_map, List.length_range, sizeLine_eq]
        have : n ≤ 16777216 := hn.2
        show n.toNat ≤ 16777216
        omega
      · have := itd_rng (M := M) (ags := ags1) (Ex := exs O ags1 W) (H := H1) 0 n.toNat
        simp only [Int.zero_add] at this
        exact this
    · exact h1.elim
  · cases hl1
  · cases hl1
  · exact h1.elim
theorem i_rng2 (Z : Cz z X M G Wx) (hg : glB z.sc "range" = true) (ha : PA X [a, b] (tA G M Wx false ces)) (hs : notStar a = true) (hs2 : notStar b = true) (hl : lenEs ces = 2) : PI X tg (.Call (.Name "range" p) [a, b] [] pos) (tI G M Wx (.rng ces)) := by
  refine PI.imp (pi_range2 (gl_of Z hg) (Z.blt _ (by decide)) ha (by rw [star_of hs, star_of hs2]; rfl) (star_of hs2)) fun σV H R h => ?_
  obtain ⟨O, ags, W, σ, S, sit, h⟩ := h
  simp only [evI] at h
  refine ⟨O, ags, W, σ, S, sit, (Pst.bnd h).impE fun ds S1 ags1 H1 hE e1 r1 h1 vs rvs => ?_⟩
  have rvs : RelNs M O ags1 W H1 ds vs := rvs
  have hl1 := (evEs_len _ hE).trans hl
  unfold rangeD at h1
  split at h1
  · cases hl1
  · rename_i m n _
    obtain ⟨w, w2, rfl, rw1, rw2⟩ := rvs.two
    cases rw1.int
    cases rw2.int
    split at h1
    · rename_i hn
      refine ⟨m, n, rfl, ⟨hn.1, hn.2.1, hn.2.2.1, hn.2.2.2.1⟩, h1.ok r1 _ ?_ (itd_rng m _)⟩
      rw [List.length_map, List.length_range, sizeLine_eq]
      have : n - m ≤ 16777216 := hn.2.2.2.2
      show (n - m).toNat ≤ 16777216
      omega
    · exact h1.elim
  · cases hl1
  · exact h1.elim
theorem itd_dn {M : Nm} {ags : List Addr} {Ex : Adr} {H : Hp} (lo : Int) (n : Nat) : ItD M ags Ex H (Itc lo (-1) n) ((List.range n).map fun (k : Nat) => .int (lo - (k : Int))) := by
  intro ags' Ex' H' l dom i
  refine ⟨fun hi => by show n ≤ i; simpa using hi, fun d hd => ?_⟩
  rw [List.getElem?_map] at hd
  obtain ⟨k, e, rfl⟩ := Option.map_eq_some_iff.mp hd
  obtain ⟨hl, e⟩ := List.getElem?_eq_some_iff.mp e
  rw [List.getElem_range] at e
  subst e
  refine ⟨by show i < n; simpa using hl, fun v H'' y => ?_⟩
  obtain ⟨rfl, rfl⟩ := y
  refine ⟨?_, .inl rfl⟩
  show V.int (lo + (i : Nat) * (-1)) = V.int (lo - i)
  congr 1
  omega
theorem i_rng3 (Z : Cz z X M G Wx) (hg : glB z.sc "range" = true) (ha : PA X [a, b, c] (tA G M Wx false ces)) (hs : notStar a = true) (hs2 : notStar b = true) (hs3 : notStar c = true) (hl : lenEs ces = 3) : PI X tg (.Call (.Name "range" p) [a, b, c] [] pos) (tI G M Wx (.rng ces)) := by
  refine PI.imp (pi_range3 (gl_of Z hg) (Z.blt _ (by decide)) ha (star_of hs) (by rw [star_of hs2, star_of hs3]; rfl)) fun σV H R h => ?_
  obtain ⟨O, ags, W, σ, S, sit, h⟩ := h
  simp only [evI] at h
  refine ⟨O, ags, W, σ, S, sit, (Pst.bnd h).impE fun ds S1 ags1 H1 hE e1 r1 h1 vs rvs => ?_⟩
  have rvs : RelNs M O ags1 W H1 ds vs := rvs
  have hl1 := (evEs_len _ hE).trans hl
  unfold rangeD at h1
  split at h1
  · cases hl1
  · cases hl1
  · rename_i i j k _
    obtain ⟨w, w2, w3, rfl, rw1, rw2, rw3⟩ := rvs.three
    cases rw1.int
    cases rw2.int
    cases rw3.int
    split at h1
    · rename_i hn
      obtain ⟨rfl, a1, a2, b1, b2, hz⟩ := hn
      refine ⟨i, j, -1, (i - j).toNat, rfl, RgC.neg a1 a2 b1 b2, h1.ok r1 _ ?_ (itd_dn i _)⟩
      rw [List.length_map, List.length_range, sizeLine_eq]
      have : i - j ≤ 16777216 := hz
      show (i - j).toNat ≤ 16777216
      omega
    · exact h1.elim
  · exact h1.elim
/-- every list is of a length that the model carries -/
def LB (H : Hp) : Prop := ∀ l vs, H l = some (.lst vs) ∨ H l = some (.tup vs) → vs.length ≤ sizeLine
theorem lb_of {pins : List (Addr × Obj)} {s : Shared} {σV : L2.St} {H : Hp} (I : Inv X pins σV H s) : LB H := fun l vs hl => by
  rcases hl with hl | hl
  · obtain ⟨its, rvs, pl, hz⟩ := I.list (.inl (.inl hl))
    exact hz
  · obtain ⟨its, rvs, pl, hz⟩ := I.tuple (.inl (.inl hl))
    exact hz
theorem PA.lb {t : TA} (h : PA X es t) : PA X es (fun σ H Q => t σ H fun vs H1 => LB H1 → Q vs H1) :=
  ⟨fun pos pins s σ H Q I q => thn (h.run pos pins s σ H _ I q) fun us s1 ⟨vs, H1, I1, r1, q1⟩ => ⟨vs, H1, I1, r1, q1 (lb_of I1)⟩⟩
theorem i_zip {elts : List Expr} {kk : Nat} {tpos : Pos} (Z : Cz z X M G Wx) (hg : glB z.sc "zip" = true) (ha : PA X [a, b] (tA G M Wx true ces)) (hs : notStar a = true) (hs2 : notStar b = true) : PI X (.Tuple elts kk tpos) (.Call (.Name "zip" p) [a, b] [] pos) (tI G M Wx (.zip ces)) := by
  refine PI.imp (RZ.pi_zipA (gl_of Z hg) (Z.blt _ (by decide)) (PA.lb ha) (star_of hs) (by rw [star_of hs2]; rfl)) fun σV H RR h => ?_
  obtain ⟨O, ags, W, σ, S, sit, h⟩ := h
  simp only [evI] at h
  refine ⟨O, ags, W, σ, S, sit, (Pst.bnd h).imp fun ds S1 ags1 H1 e1 r1 h1 vs rvs lb => ?_⟩
  have rvs : VRs M ags1 (exs O ags1 W) H1 ds vs := rvs
  unfold zipD at h1
  split at h1
  · rename_i x y _ _
    obtain ⟨v1, t1, rfl, q1, v2, t2, rfl, q2, e⟩ := rvs
    cases (show t2 = [] from e)
    obtain ⟨l1, w1, rfl, n1, a1, b1⟩ := q1
    obtain ⟨l2, w2, rfl, n2, a2, b2⟩ := q2
    refine ⟨l1, l2, w1, w2, rfl, .inl ⟨.inl (.inl a1), .inl (.inl a2), h1.ok r1 _ ?_ (itd_zip a1 n1 b1 a2 n2 b2 _)⟩⟩
    have := lb l1 w1 (.inl a1)
    rw [b1.length] at this
    rw [List.length_zipWith]
    omega
  · rename_i x y _ _
    obtain ⟨v1, t1, rfl, q1, v2, t2, rfl, q2, e⟩ := rvs
    cases (show t2 = [] from e)
    obtain ⟨l1, w1, rfl, n1, a1, b1⟩ := q1
    obtain ⟨l2, w2, rfl, n2, a2, b2⟩ := q2
    refine ⟨l1, l2, w1, w2, rfl, .inr ⟨.inl (.inl a1), .inl (.inl a2), h1.ok r1 _ ?_ (itd_zipT a1 n1 b1 a2 n2 b2 _)⟩⟩
    have := lb l1 w1 (.inr a1)
    rw [b1.length] at this
    rw [List.length_zipWith]
    omega
  · exact h1.elim
theorem itd_enmS {x : List Nat} (g : Good x) : ItD M ags Ex H (Ites ⟨x.toArray⟩) (enumFrom 0 (x.map fun c => .str [c])) := by
  intro ags' Ex' H' l dom i
  rw [enumFrom_len, List.length_map]
  refine ⟨fun h => by show (⟨x.toArray⟩ : Str).cps.size ≤ i; simpa using h, fun d hd => ?_⟩
  rw [enumFrom_get, List.getElem?_map] at hd
  obtain ⟨e, he, rfl⟩ := Option.map_eq_some_iff.mp hd
  obtain ⟨c, hc, rfl⟩ := Option.map_eq_some_iff.mp he
  have hi : i < x.length := (List.getElem?_eq_some_iff.mp hc).1
  refine ⟨by show i < (⟨x.toArray⟩ : Str).cps.size; simpa using hi, fun v H'' hy => ?_⟩
  obtain ⟨T, c', rfl, hT, rfl, hc'⟩ := hy
  have hcc : x[i]? = some c' := by simpa using hc'
  rw [hc] at hcc
  cases hcc
  refine ⟨⟨T, _, rfl, fun z => dom T z hT, upd_same, _, _, rfl, by rw [Nat.zero_add]; rfl, _, _, rfl, ⟨rfl, ?_, ?_⟩, rfl⟩, .inr ⟨T, _, hT, rfl⟩⟩
  · rw [sizeLine_eq]; show 1 ≤ _; omega
  · intro k hk; cases List.mem_singleton.mp hk; exact g.ok c (List.mem_of_getElem? hc)
theorem i_enm {elts : List Expr} {kk : Nat} {tpos : Pos} (Z : Cz z X M G Wx) (hg : glB z.sc "enumerate" = true) (ha : PE X a (tE G M Wx .cap ca)) (hs : notStar a = true) : PI X (.Tuple elts kk tpos) (.Call (.Name "enumerate" p) [a] [] pos) (tI G M Wx (.enm ca)) := by
  have args := PA.lb (pa_cons ha pa_nil (star_of hs))
  refine PI.imp (pi_enumA (gl_of Z hg) (Z.blt _ (by decide)) args (star_of hs)) fun σV H RR h => ?_
  obtain ⟨O, ags, W, σ, S, sit, h⟩ := h
  simp only [evI] at h
  refine ⟨O, ags, W, σ, S, sit, (Pst.bnd h).imp fun d S1 ags1 H1 e1 r1 h1 v rv lb => ?_⟩
  cases d with
  | lst ds =>
    obtain ⟨l, vs, rfl, n, ha, hv⟩ := rv
    refine .inl ⟨l, vs, rfl, .inl (.inl ha), h1.ok r1 _ ?_ (itd_enm ha n hv _)⟩
    rw [enumFrom_len, ← hv.length]
    exact lb l vs (.inl ha)
  | str x =>
    obtain ⟨rfl, g⟩ := rv
    refine .inr ⟨_, rfl, h1.ok r1 _ ?_ (itd_enmS g)⟩
    rw [enumFrom_len, List.length_map]
    exact g.len
  | _ => exact h1.elim

theorem PE.lb {t : TE} (h : PE X e t) : PE X e (fun σ H Q => t σ H fun v H1 => LB H1 → Q v H1) :=
  ⟨fun pins s σ H Q I q => thn (h.run pins s σ H _ I q) fun u s1 ⟨v, H1, I1, r1, q1⟩ => ⟨v, H1, I1, r1, q1 (lb_of I1)⟩⟩
theorem itd_rev {a : Addr} {ds : List D} {vs : List V} (ha : H a = some (.lst vs)) (n : ¬ Ex a) (hv : VRs M ags Ex H ds vs) (K : PySem.W.Frag) : ItD M ags Ex H (Itv K a vs.length) ds.reverse := by
  intro ags' Ex' H' l dom i
  have ha' := l.same a _ n ha
  have hv' := VRs.le l _ _ hv
  have hlen := hv.length
  refine ⟨fun hi => by show vs.length ≤ i; rw [List.length_reverse] at hi; omega, fun d hd => ?_⟩
  have hi : i < ds.length := by
    have := (List.getElem?_eq_some_iff.mp hd).1
    rwa [List.length_reverse] at this
  rw [List.getElem?_reverse hi] at hd
  obtain ⟨v, q, r⟩ := hv'.get hd
  rw [← hlen] at q
  refine ⟨⟨by omega, vs, v, .inl (.inl ha'), q⟩, fun u H'' yy => ?_⟩
  obtain ⟨rfl, y1⟩ := yy
  have z1 := y1 vs (.inl (.inl ha'))
  rw [q] at z1
  cases z1
  exact ⟨r, .inl rfl⟩
theorem itd_revS {x : List Nat} (g : Good x) : ItD M ags Ex H (RVS.Itw ⟨x.toArray⟩) (x.reverse.map fun c => .str [c]) := by
  intro ags' Ex' H' l dom i
  have hl : (⟨x.toArray⟩ : Str).length = x.length := str_len x
  refine ⟨fun hi => by show (⟨x.toArray⟩ : Str).length ≤ i; rw [List.length_map, List.length_reverse] at hi; omega, fun d hd => ?_⟩
  rw [List.getElem?_map] at hd
  obtain ⟨c, hc, rfl⟩ := Option.map_eq_some_iff.mp hd
  have hi : i < x.length := by
    have := (List.getElem?_eq_some_iff.mp hc).1
    rwa [List.length_reverse] at this
  rw [List.getElem?_reverse hi] at hc
  refine ⟨by show i < (⟨x.toArray⟩ : Str).length; omega, fun v H'' hy => ?_⟩
  obtain ⟨rfl, c', hc', rfl⟩ := hy
  have hcc : x[x.length - 1 - i]? = some c' := by
    rw [hl] at hc'
    simpa using hc'
  rw [hc] at hcc
  cases hcc
  refine ⟨⟨rfl, ?_, ?_⟩, .inl rfl⟩
  · rw [sizeLine_eq]; show 1 ≤ _; omega
  · intro k hk; cases List.mem_singleton.mp hk; exact g.ok c (List.mem_of_getElem? hc)
theorem i_rvs (Z : Cz z X M G Wx) (hg : glB z.sc "reversed" = true) (ha : PE X a (tE G M Wx .cap ca)) (hs : notStar a = true) : PI X tg (.Call (.Name "reversed" p) [a] [] pos) (tI G M Wx (.rvs ca)) := by
  refine PI.imp (RVS.pi_revB (gl_of Z hg) (Z.blt _ (by decide)) (PE.lb ha) (star_of hs)) fun σV H RR h => ?_
  obtain ⟨O, ags, W, σ, S, sit, h⟩ := h
  simp only [evI] at h
  refine ⟨O, ags, W, σ, S, sit, (Pst.bnd h).imp fun d S1 ags1 H1 e1 r1 h1 v rv lb => ?_⟩
  cases d with
  | lst ds =>
    obtain ⟨l, vs, rfl, n, ha, hv⟩ := rv
    have h1 : Pst M O W Wx σV ags1 H1 (R.ok ds.reverse S1) _ := h1
    refine .inl ⟨l, vs, rfl, .inl (.inl ha), h1.ok r1 _ ?_ (itd_rev ha n hv _)⟩
    rw [List.length_reverse, ← hv.length]
    exact lb l vs (.inl ha)
  | str x =>
    obtain ⟨rfl, g⟩ := rv
    have h1 : Pst M O W Wx σV ags1 H1 (R.ok (x.reverse.map fun c => D.str [c]) S1) _ := h1
    refine .inr ⟨_, rfl, by rw [str_len]; exact g.len, h1.ok r1 _ ?_ (itd_revS g)⟩
    rw [List.length_map, List.length_reverse]
    exact g.len
  | _ => exact h1.elim

/-! ### list(..), tuple(..) -/
theorem vals_signs : ∀ (xs : List Nat) (us : List Value), us.length = xs.length → (∀ (j : Nat) (v : Value), us[j]? = some v → ∃ c u, xs[j]? = some c ∧ v = .str ⟨#[c]⟩ u) → Vals (xs.map fun c => V.str ⟨#[c]⟩) us
  | [], [], _, _ => .nil
  | x :: xs, u :: us, hl, h => by
    obtain ⟨c, t, e, rfl⟩ := h 0 u rfl
    cases e
    exact .cons ⟨t, rfl⟩ (vals_signs xs us (by simpa using hl) fun j v e => h (j + 1) v (by simpa using e))
  | [], _ :: _, hl, _ => by simp at hl
  | _ :: _, [], hl, _ => by simp at hl
def rLi (M : Nm) : List V → Hp → VK → Prop := fun vs H Q => ∃ O ags W S d v xs, vs = [v] ∧ RelN M O ags W H d v ∧ lstD d = some xs ∧ Gives M (.lst xs) H Q O ags W S
theorem call_li (hc : X.A.handled = none) : CallR X (.type "list") (rLi M) := by
  intro pins s σ H xs us Q I r h
  obtain ⟨O, ags, W, S, d, v, ys, rfl, hv, e, g⟩ := h
  cases d with
  | lst ds =>
    obtain ⟨l, vs, rfl, ha, hd⟩ := hv.lst
    cases e
    exact call_list_of pins s σ H _ us Q I r ⟨l, vs, rfl, .inl (.inl (.inl ha)), g.lst hd⟩
  | tup ds =>
    obtain ⟨l, vs, rfl, ha, hd⟩ := hv.tup
    cases e
    exact call_list_of pins s σ H _ us Q I r ⟨l, vs, rfl, .inr (.inl (.inl ha)), g.lst hd⟩
  | str x =>
    obtain ⟨rfl, gx⟩ := hv.str
    obtain ⟨u, rfl, t, rfl⟩ := vals1 r
    cases e
    have hsz : (⟨x.toArray⟩ : Str).cps.size ≤ sizeLine := by show x.toArray.size ≤ _; rw [List.size_toArray]; exact gx.len
    refine call_list_str hc ⟨x.toArray⟩ t (hn := hsz) fun h' tk acc' c' kp e' hacc => ?_
    have hl : acc'.toList.length = x.length := by rw [Array.length_toList, hacc.1]; show x.toArray.size = _; rw [List.size_toArray]
    have rv := vals_signs x acc'.toList hl fun j v hj => by
      obtain ⟨c, u, q1, q2⟩ := hacc.2 j v (by simpa using hj)
      exact ⟨c, u, by simpa using q1, q2⟩
    refine ⟨.ref s.heap.objs.size, _, I.laid (t' := tk) (o := .lst (x.map fun c => V.str ⟨#[c]⟩)) kp (Nat.le_refl _) ⟨by rw [List.length_map]; exact gx.len, acc'.toList, c', rv, by simpa using e'⟩, rfl, ?_⟩
    refine g.lst (ds := x.map fun c => .str [c]) ?_ _ (I.hok.fresh (Nat.le_refl _))
    have gen : ∀ l : List Nat, (∀ c ∈ l, c < 1114112) → VRs M ags (exs O ags W) H (l.map fun c => D.str [c]) (l.map fun c => V.str ⟨#[c]⟩) := by
      intro l
      induction l with
      | nil => intro _; rfl
      | cons c r ih =>
        intro hc
        refine ⟨_, _, rfl, ⟨rfl, ?_, fun c' h => ?_⟩, ih fun c' h => hc c' (List.mem_cons_of_mem _ h)⟩
        · rw [sizeLine_eq]; show 1 ≤ _; omega
        · cases List.mem_singleton.mp h; exact hc c List.mem_cons_self
    exact gen x gx.ok
  | _ => cases e
theorem boot_lst : bootBuiltins "list" = some (.type "list") := by decide +kernel
theorem boot_tup : bootBuiltins "tuple" = some (.type "tuple") := by decide +kernel
theorem e_lstI {m : Mo} (Z : Cz z X M G Wx) (hh : X.A.handled = none) (hg : glB z.sc "list" = true) (ha : PE X a (tE G M Wx .now ca)) (hs : notStar a = true) : PE X (.Call (.Name "list" p) [a] [] pos) (tE G M Wx m (.lstI ca)) := by
  refine PE.imp (pe_callTy (call_li (M := M) hh) (gl_of Z hg) (Z.blt _ (by decide)) boot_lst (pa_cons ha pa_nil (star_of hs)) (by decide) (by decide) (star_of hs) rfl) fun σV H Q h => ?_
  obtain ⟨O, ags, W, σ, S, sit, h⟩ := h
  simp only [evE] at h
  refine ⟨O, ags, W, σ, S, sit, (Pst.bnd h).imp fun d S1 ags1 H1 e1 r1 h1 v rv => ?_⟩
  cases hf : lstD d with
  | none => rw [hf] at h1; exact h1.elim
  | some xs =>
    rw [hf] at h1
    exact ⟨O, ags1, W, S1, d, v, xs, rfl, rv, hf, r1, fun w H' e2 r2 rf => h1 _ _ e2 r2 w (RelM.ofF (RelF.back e1 r1 rf))⟩
theorem e_tupI {m : Mo} (Z : Cz z X M G Wx) (hg : glB z.sc "tuple" = true) (ha : PE X a (tE G M Wx .now ca)) (hs : notStar a = true) : PE X (.Call (.Name "tuple" p) [a] [] pos) (tE G M Wx m (.tupI ca)) := by
  refine PE.imp (pe_callTy call_tuple_of (gl_of Z hg) (Z.blt _ (by decide)) boot_tup (pa_cons ha pa_nil (star_of hs)) (by decide) (by decide) (star_of hs) rfl) fun σV H Q h => ?_
  obtain ⟨O, ags, W, σ, S, sit, h⟩ := h
  simp only [evE] at h
  refine ⟨O, ags, W, σ, S, sit, (Pst.bnd h).imp fun d S1 ags1 H1 e1 r1 h1 v rv => ?_⟩
  cases d with
  | lst ds =>
    obtain ⟨l, vs, rfl, ha, hd⟩ := rv.lst
    exact ⟨l, vs, rfl, .inl ⟨.inl (.inl ha), fun q hq => h1 _ _ (Ext.upd hq) (r1.upd hq) _ (RelM.ofF (RelF.back e1 r1 (RelF.newT r1 hq hd)))⟩⟩
  | tup ds =>
    have vt := rv.tupV
    obtain ⟨l, vs, rfl, ha, hd⟩ := rv.tup
    exact ⟨l, vs, rfl, .inr ⟨.inl (.inl ha), h1.ok r1 _ (RelM.ofF (.inl ⟨rfl, vt⟩))⟩⟩
  | _ => exact h1.elim
theorem rgV_ints (a b : Int) : rgV a b = ((List.range (b - a).toNat).map fun (k : Nat) => a + (k : Int)).map V.int := by
  unfold rgV
  rw [List.map_map]
  rfl
theorem e_lrg1 {p2 p3 : Pos} {m : Mo} (Z : Cz z X M G Wx) (hg : glB z.sc "list" = true) (hg2 : glB z.sc "range" = true) (ha : PE X a (tE G M Wx .now ca)) (hs : notStar a = true) :
    PE X (.Call (.Name "list" p) [.Call (.Name "range" p2) [a] [] p3] [] pos) (tE G M Wx m (.lrg (.cons ca .nil))) := by
  refine PE.imp (pe_listRg Z.calm (gl_of Z hg) (Z.blt _ (by decide)) (prg_1 (gl_of Z hg2) (Z.blt _ (by decide)) ha (star_of hs)) (star_of rfl)) fun σV H Q h => ?_
  obtain ⟨O, ags, W, σ, S, sit, h⟩ := h
  simp only [evE, evEs] at h
  rw [bnd_assoc] at h
  refine ⟨O, ags, W, σ, S, sit, (Pst.bnd h).imp fun d S1 ags1 H1 e1 r1 h1 v rv => ?_⟩
  simp only [PV.R.bnd_ok] at h1
  cases d with
  | int n =>
    have rv : RelN M O ags1 W H1 (.int n) v := rv
    cases rv.int
    have e0 : rangeD [.int n] = if -(2 ^ 62) ≤ n ∧ n ≤ SZ then some ((List.range n.toNat).map fun (k : Nat) => D.int (k : Int)) else none := rfl
    rw [e0] at h1
    by_cases hn : -(2 ^ 62) ≤ n ∧ n ≤ SZ
    · rw [if_pos hn] at h1
      have hn2 : n ≤ 16777216 := hn.2
      refine ⟨n, rfl, ⟨by omega, by omega, hn.1, by omega, by omega⟩, fun q hq => ?_⟩
      have h1 : Pst M O W Wx σV ags1 H1 (R.ok (.lst ((List.range n.toNat).map fun (k : Nat) => .int (k : Int))) S1) (fun d S' ags' H' => ∀ v, RelM m M O H ags' W H' d v → Q v H') := h1
      refine h1 _ _ (Ext.upd hq) (r1.upd hq) _ (RelM.ofF (RelF.back e1 r1 (RelF.newL r1 hq ?_)))
      rw [rgV_ints]
      have e : ((List.range n.toNat).map fun (k : Nat) => D.int (k : Int)) = ((List.range (n - 0).toNat).map fun (k : Nat) => (0 : Int) + (k : Int)).map D.int := by
        rw [List.map_map, Int.sub_zero]
        exact List.map_congr_left fun k _ => by show D.int _ = D.int (0 + _); rw [Int.zero_add]
      rw [e]
      exact VRs.ints _
    · rw [if_neg hn] at h1
      exact h1.elim
  | _ => exact h1.elim
theorem e_lrg2 {p2 p3 : Pos} {m : Mo} (Z : Cz z X M G Wx) (hg : glB z.sc "list" = true) (hg2 : glB z.sc "range" = true) (ha : PE X a (tE G M Wx .bor ca)) (hs : notStar a = true) (hb : PE X b (tE G M Wx .now cb)) (hs2 : notStar b = true) :
    PE X (.Call (.Name "list" p) [.Call (.Name "range" p2) [a, b] [] p3] [] pos) (tE G M Wx m (.lrg (.cons ca (.cons cb .nil)))) := by
  refine PE.imp (pe_listRg Z.calm (gl_of Z hg) (Z.blt _ (by decide)) (prg_2 (gl_of Z hg2) (Z.blt _ (by decide)) ha hb (star_of hs) (star_of hs2) (by rw [star_of hs2]; rfl)) (star_of rfl)) fun σV H Q h => ?_
  obtain ⟨O, ags, W, σ, S, sit, h⟩ := h
  simp only [evE, evEs] at h
  rw [bnd_assoc] at h
  refine ⟨O, ags, W, σ, S, sit, (Pst.bnd h).imp fun d S1 ags1 H1 e1 r1 h1 v rv => ?_⟩
  rw [bnd_assoc, bnd_assoc] at h1
  refine ⟨O, ags1, W, σ, S1, sit.ext e1 r1, (Pst.bnd h1).imp fun d2 S2 ags2 H2 e2 r2 h2 u ru => ?_⟩
  simp only [PV.R.bnd_ok] at h2
  have rv2 := RelB.ext e2 rv
  have ru : RelN M O ags2 W H2 d2 u := ru
  cases d with
  | int x =>
    cases d2 with
    | int y =>
      have e0 : rangeD [.int x, .int y] = if -(2 ^ 62) ≤ x ∧ x < 2 ^ 62 ∧ -(2 ^ 62) ≤ y ∧ y < 2 ^ 62 ∧ y - x ≤ SZ then some ((List.range (y - x).toNat).map fun (k : Nat) => D.int (x + (k : Int))) else none := rfl
      rw [e0] at h2
      cases rv2.int
      cases ru.int
      by_cases hn : -(2 ^ 62) ≤ x ∧ x < 2 ^ 62 ∧ -(2 ^ 62) ≤ y ∧ y < 2 ^ 62 ∧ y - x ≤ SZ
      · rw [if_pos hn] at h2
        obtain ⟨n1, n2, n3, n4, n5⟩ := hn
        have n5 : y - x ≤ 16777216 := n5
        refine ⟨x, y, rfl, rfl, ⟨n1, n2, n3, n4, by omega⟩, fun q hq => ?_⟩
        have h2 : Pst M O W Wx σV ags2 H2 (R.ok (.lst ((List.range (y - x).toNat).map fun (k : Nat) => .int (x + (k : Int)))) S2) (fun d S' ags' H' => ∀ v, RelM m M O H ags' W H' d v → Q v H') := h2
        have e12 := e1.trans e2 r1
        refine h2 _ _ (Ext.upd hq) (r2.upd hq) _ (RelM.ofF (RelF.back e12 r2 (RelF.newL r2 hq ?_)))
        rw [rgV_ints]
        have e : ((List.range (y - x).toNat).map fun (k : Nat) => D.int (x + (k : Int))) = ((List.range (y - x).toNat).map fun (k : Nat) => x + (k : Int)).map D.int := by
          rw [List.map_map]; rfl
        rw [e]
        exact VRs.ints _
      · rw [if_neg hn] at h2
        exact h2.elim
    | _ => exact h2.elim
  | _ =>
    have e0 : ∀ z, rangeD [d2, z] = rangeD [d2, z] := fun _ => rfl
    cases d2 <;> exact h2.elim
end
end PV

/-! ## PV: list comprehensions; every expression -/
namespace PV
open PySem PySem.Spec PyProof.Rows L2

theorem nox_ok_of {α : Type} {m : R α} {a : α} {S : List D} (h : R.nox m = .ok a S) : m = .ok a S := by
  cases m with
  | ok _ _ => exact h
  | exc _ _ => cases h
  | stuck => cases h
theorem nox_noexc {α : Type} {m : R α} {e : D} {S : List D} : R.nox m ≠ .exc e S := by
  cases m <;> (intro h; cases h)
theorem bnd_noexc {α β : Type} {m : R α} {f : α → List D → R β} (hm : ∀ e S, m ≠ .exc e S) (hf : ∀ a S e S', f a S ≠ .exc e S') : ∀ e S, m.bnd f ≠ .exc e S := by
  intro e S h
  cases m with
  | ok a S1 => exact hf a S1 e S h
  | exc e' S' => exact hm _ _ rfl
  | stuck => cases h
theorem lcF_noexc {G : PV.Env} {e : Xp} {own : List Nat} {t : Tg} {c : Xpo} {σ : Sg} (x : D) (S : List D) (ex : D) (S' : List D) : lcF G e own t c σ x S ≠ .exc ex S' := by
  unfold lcF
  split
  · intro h; cases h
  · refine bnd_noexc (fun _ _ => ?_) (fun k S2 e S3 => ?_) _ _
    · cases c with
      | none => simp only [evC]; intro h; cases h
      | some c => simp only [evC]; exact nox_noexc
    split
    · exact bnd_noexc (fun _ _ => nox_noexc) (fun _ _ _ _ h => by cases h) _ _
    · intro h; cases h
theorem lcGo_noexc {f : D → List D → R (List D)} (hf : ∀ x S e S', f x S ≠ .exc e S') : ∀ (xs : List D) (S : List D) (e : D) (S' : List D), lcGo f xs S ≠ .exc e S'
  | [], S, e, S' => by unfold lcGo; intro h; cases h
  | x :: xs, S, e, S' => by
    unfold lcGo
    exact bnd_noexc (fun _ _ => hf _ _ _ _) (fun _ _ _ _ => bnd_noexc (fun _ _ => lcGo_noexc hf xs _ _ _) (fun _ _ _ _ h => by cases h) _ _) _ _

def WF : WX := fun _ _ _ _ => False
def tC (G : PV.Env) (M : Nm) : Xpo → TT
  | .none => tYes
  | .some c => tT G M WF c
section
variable {M : Nm} {O : Adr} {ags ags' : List Addr} {W : Nat → Option Addr} {H H' : Hp} {S S' : List D}
abbrev OD (O : Adr) (Dd : Addr) : Adr := fun a => O a ∨ a = Dd
theorem SR.withD (r : SR M O ags W H S) {Dd : Addr} {o : HO} (h : H Dd = none) (ho : Ob (L2.upd H Dd o) Dd) : SR M (OD O Dd) ags W (L2.upd H Dd o) S := by
  have ne : ∀ a, H a ≠ none → (L2.upd H Dd o) a = H a := fun a ha => upd_ne fun z => ha (z ▸ h)
  have l : Le ags (exs O ags W) H ags (exs (OD O Dd) ags W) (L2.upd H Dd o) := by
    refine ⟨List.prefix_refl _, fun a ha z => ?_, fun a u _ e => by rw [ne a (by rw [e]; simp)]; exact e⟩
    rcases z with (z | z) | z
    · exact .inl z
    · exact absurd (z ▸ h) ha
    · exact .inr z
  refine ⟨r.len, r.nd, fun n d a h1 h2 => ?_, fun a ha z => ?_, fun i a hw => ?_, fun a ha => ?_, fun i a hw => (r.wo i a hw).eq (ne a (r.wo i a hw).ne), fun a ha => ?_, r.fl⟩
  · have q := r.at_ n d a h1 h2
    exact OwnR.le l (ne a q.ne) q
  · rcases z with z | z
    · exact r.ap a ha z
    · exact r.adom ha (z ▸ h)
  · obtain ⟨h1, h2, h3⟩ := r.wn i a hw
    refine ⟨fun z => ?_, h2, by rw [ne a h3]; exact h3⟩
    rcases z with z | z
    · exact h1 z
    · exact h3 (z ▸ h)
  · rcases ha with z | z
    · rw [ne a (r.on a z)]; exact r.on a z
    · subst z; rw [upd_same]; intro z; cases z
  · rcases ha with z | z
    · exact (r.oo a z).eq (ne a (r.on a z))
    · subst z; exact ho
theorem SR.putD (r : SR M O ags W H S) {Dd : Addr} {o : HO} (h : O Dd) (ho : Ob (L2.upd H Dd o) Dd) : SR M O ags W (L2.upd H Dd o) S := by
  have l : Le ags (exs O ags W) H ags (exs O ags W) (L2.upd H Dd o) :=
    ⟨List.prefix_refl _, fun a _ z => z, fun a u n e => by rw [upd_ne fun z => n (.inl (by rw [z]; exact h))]; exact e⟩
  refine ⟨r.len, r.nd, fun n d a h1 h2 => ?_, r.ap, fun i a hw => ?_, fun a ha => ?_, fun i a hw => ?_, fun a ha => ?_, r.fl⟩
  · have q := r.at_ n d a h1 h2
    have hm : a ∈ ags := List.mem_of_getElem? h2
    exact OwnR.le l (upd_ne fun z => r.ap a hm (by rw [z]; exact h)) q
  · obtain ⟨h1, h2, h3⟩ := r.wn i a hw
    exact ⟨h1, h2, by rw [upd_ne fun z => h1 (by rw [z]; exact h)]; exact h3⟩
  · by_cases z : a = Dd
    · subst z; rw [upd_same]; intro z; cases z
    · rw [upd_ne z]; exact r.on a ha
  · exact (r.wo i a hw).eq (upd_ne fun z => (r.wn i a hw).1 (by rw [z]; exact h))
  · by_cases z : a = Dd
    · subst z; exact ho
    · exact (r.oo a ha).eq (upd_ne z)
theorem SR.dropD {Dd : Addr} (r : SR M (OD O Dd) ags W H S) : SR M O ags W H S := by
  have l : Le ags (exs (OD O Dd) ags W) H ags (exs O ags W) H := by
    refine ⟨List.prefix_refl _, fun a _ z => ?_, fun a u _ e => e⟩
    rcases z with z | z
    · exact .inl (.inl z)
    · exact .inr z
  exact ⟨r.len, r.nd, fun n d a h1 h2 => OwnR.le l rfl (r.at_ n d a h1 h2), fun a ha z => r.ap a ha (.inl z), fun i a hw => ⟨fun z => (r.wn i a hw).1 (.inl z), (r.wn i a hw).2⟩, fun a ha => r.on a (.inl ha), r.wo, fun a ha => r.oo a (.inl ha), r.fl⟩
end
section
variable {X : Cx} {M : Nm} {G : PV.Env} {Wx : WX} {z : Sx}
theorem wipe_wipe (σV : L2.St) : ∀ vs : List Nat, L2.wipe (L2.wipe σV vs) vs = L2.wipe σV vs := by
  have gen : ∀ (us vs : List Nat), (∀ i ∈ us, i ∈ vs) → L2.wipe (L2.wipe σV us) vs = L2.wipe σV vs := by
    intro us
    induction us with
    | nil => intro vs _; rfl
    | cons u us ih =>
      intro vs h
      show L2.wipe ((L2.wipe σV us).set u none) vs = _
      rw [(wipe_set (L2.wipe σV us) u none vs).1 (h u List.mem_cons_self)]
      exact ih vs fun i hi => h i (List.mem_cons_of_mem _ hi)
  exact fun vs => gen vs vs fun _ h => h
theorem lc_run {O : Adr} {ags1 : List Addr} {W : Nat → Option Addr} {σ : Sg} {S1 : List D} {σV : L2.St} {H1 : Hp} {e : Xp} {own : List Nat} {t : Tg} {c : Xpo} {xs : List D} {J : It} {K : D → List D → List Addr → Hp → Prop} {Qd : Hp → Prop} {Dd : Addr}
    (sit : Sit M O ags1 W σ S1 σV H1) (hsub : ∀ i ∈ tgS t, i ∈ own) (h : Pst M O W Wx σV ags1 H1 ((lcGo (lcF G e own t c σ) xs S1).bnd fun ys S2 => .ok (.lst ys) S2) K) (hlen : xs.length ≤ sizeLine) (hJ : ItD M ags1 (exs O ags1 W) H1 J xs) (hD : H1 Dd = none)
    (hK : ∀ zs Sn ags' H', Ext ags1 H1 ags' H' → SR M O ags' W H' Sn → RelF M O H1 ags' W H' (.lst zs) (.ref Dd) → K (.lst zs) Sn ags' H' → Qd H') :
    ∃ Wi : Nat → Nat → Hp → Prop, (∃ m, Wi 0 m (upd H1 Dd (.lst []))) ∧ ∀ i m H, Wi i m H → (J.stop i H ∧ Qd H) ∨ (J.go i H ∧ ∃ Nx : Hp → Prop, (∀ H', Nx H' → ∃ m', m' < m ∧ Wi (i + 1) m' H') ∧
      ∀ x H', J.yld i H x H' → tG M t x (L2.wipe σV own) H' fun σ2 H2 => L2.wipe σ2 own = L2.wipe σV own ∧ tC G M c σ2 H2 fun b H3 =>
        if b = true then tE G M WF .cap e σ2 H3 fun y H4 => ∃ acc, H4 Dd = some (.lst acc) ∧ acc.length < sizeLine ∧ Nx (upd H4 Dd (.lst (acc ++ [y]))) else Nx H3) := by
  have nox := lcGo_noexc (lcF_noexc (G := G) (e := e) (own := own) (t := t) (c := c) (σ := σ))
  generalize hf : lcF G e own t c σ = f at h nox
  cases hgo : lcGo f xs S1 with
  | exc ex S' => exact absurd hgo (nox _ _ _ _)
  | stuck => rw [hgo] at h; exact h.elim
  | ok zs Sn =>
    rw [hgo] at h
    have h : ∀ ags' H', Ext ags1 H1 ags' H' → SR M O ags' W H' Sn → K (.lst zs) Sn ags' H' := h
    have sitW := sit.wipe own
    refine ⟨fun i m H => m = xs.length - i ∧ i ≤ xs.length ∧ ∃ ags' S' ys acc, Ext ags1 H1 ags' H ∧ SR M (OD O Dd) ags' W H S' ∧ H Dd = some (.lst acc) ∧ VRs M ags' (exs (OD O Dd) ags' W) H ys acc ∧ ys.length ≤ i ∧
      ∃ ws, lcGo f (xs.drop i) S' = .ok ws Sn ∧ ys ++ ws = zs, ⟨xs.length, rfl, Nat.zero_le _, ags1, S1, [], [], Ext.upd hD, sit.sto.withD hD (.inl ⟨[], upd_same⟩), upd_same, rfl, Nat.le_refl _, zs, by rw [List.drop_zero]; exact hgo, rfl⟩, ?_⟩
    rintro i m H ⟨rfl, hi, ags', S', ys, acc, e1, r1, hacc, hys, hle, ws, hws, hz⟩
    have lD : Le ags1 (exs O ags1 W) H1 ags' (exs (OD O Dd) ags' W) H := by
      refine ⟨e1.pre, fun a ha q => ?_, fun a o n q => e1.same a o (fun z => n (.inr (.inl z))) q⟩
      rcases q with (q | q) | q | q
      · exact .inl q
      · exact absurd (q ▸ hD) ha
      · rcases e1.new a q with q | q
        · exact .inr (.inl q)
        · exact absurd q ha
      · exact .inr (.inr q)
    have dom : ∀ a, exs (OD O Dd) ags' W a → H a ≠ none := fun a ha => r1.edom ha
    obtain ⟨jstop, jgo⟩ := hJ ags' _ H lD dom i
    by_cases hlt : i < xs.length
    · -- a turn
      obtain ⟨d, hd⟩ : ∃ d, xs[i]? = some d := ⟨xs[i], List.getElem?_eq_getElem hlt⟩
      obtain ⟨go, yld⟩ := jgo d hd
      have hdrop : xs.drop i = d :: xs.drop (i + 1) := by
        rw [List.drop_eq_getElem_cons hlt]
        have : xs[i] = d := (List.getElem?_eq_some_iff.mp hd).2
        rw [this]
      rw [hdrop] at hws
      unfold lcGo at hws
      obtain ⟨y1, S2, hy1, hws⟩ := bnd_eq_ok hws
      obtain ⟨w1, S3, hw1, hws⟩ := bnd_eq_ok hws
      obtain ⟨rfl, rfl⟩ : y1 ++ w1 = ws ∧ S3 = Sn := by cases hws; exact ⟨rfl, rfl⟩
      refine .inr ⟨go, fun H' => ∃ ags' ys acc, Ext ags1 H1 ags' H' ∧ SR M (OD O Dd) ags' W H' S2 ∧ H' Dd = some (.lst acc) ∧ VRs M ags' (exs (OD O Dd) ags' W) H' ys acc ∧ ys.length ≤ i + 1 ∧ ys ++ w1 = zs, fun H' ⟨ags2, ys2, acc2, q1, q2, q3, q4, q5, q6⟩ => ⟨xs.length - (i + 1), by omega, rfl, hlt, ags2, S2, ys2, acc2, q1, q2, q3, q4, q5, w1, hw1, q6⟩, fun x H' hy => ?_⟩
      obtain ⟨vr, hH⟩ := yld x H' hy
      -- the state behind the step
      have st : Ext ags' H ags' H' ∧ SR M (OD O Dd) ags' W H' S' ∧ H' Dd = some (.lst acc) := by
        rcases hH with rfl | ⟨p, o, hp, rfl⟩
        · exact ⟨Ext.refl, r1, hacc⟩
        · exact ⟨Ext.upd hp, r1.upd hp, by rw [upd_ne fun z => by rw [← z, hacc] at hp; cases hp]; exact hacc⟩
      obtain ⟨e2, r2, hacc2⟩ := st
      have hys2 := VRs.le (e2.le (O := OD O Dd) (W := W)) _ _ hys
      have e12 : Ext ags1 H1 ags' H' := e1.trans e2 r1
      have sit2 : Sit M (OD O Dd) ags' W (wipeG σ own) S' (L2.wipe σV own) H' := by
        refine (sitW.extL lD (fun j a hw => ?_) r1).ext e2 r2
        obtain ⟨o, ho⟩ := Option.ne_none_iff_exists'.mp (sit.sto.wn j a hw).2.2
        rw [ho]
        exact e1.same a o (sit.sto.wn j a hw).2.1 ho
      rw [← hf] at hy1
      unfold lcF at hy1
      split at hy1
      · cases hy1
      rename_i σ1 hset
      have fin0 : ∀ {ags4 : List Addr} {H4 : Hp}, Ext ags' H' ags4 H4 → SR M (OD O Dd) ags4 W H4 S2 → y1 = [] → ∃ ags' ys acc, Ext ags1 H1 ags' H4 ∧ SR M (OD O Dd) ags' W H4 S2 ∧ H4 Dd = some (.lst acc) ∧ VRs M ags' (exs (OD O Dd) ags' W) H4 ys acc ∧ ys.length ≤ i + 1 ∧ ys ++ w1 = zs := by
        intro ags4 H4 e4 r4 hy
        subst hy
        exact ⟨ags4, ys, acc, e12.trans e4 r2, r4, e4.same _ _ (fun z => r2.ap _ z (.inr rfl)) hacc2, VRs.le e4.le _ _ hys2, by omega, by simpa using hz⟩
      have fin1 : ∀ {ags4 : List Addr} {H4 : Hp} {y : D} {v : V}, Ext ags' H' ags4 H4 → SR M (OD O Dd) ags4 W H4 S2 → y1 = [y] → VR M ags4 (exs (OD O Dd) ags4 W) H4 y v →
          ∃ acc, H4 Dd = some (.lst acc) ∧ acc.length < sizeLine ∧ ∃ ags' ys acc', Ext ags1 H1 ags' (upd H4 Dd (.lst (acc ++ [v]))) ∧ SR M (OD O Dd) ags' W (upd H4 Dd (.lst (acc ++ [v]))) S2 ∧ (upd H4 Dd (.lst (acc ++ [v]))) Dd = some (.lst acc') ∧
            VRs M ags' (exs (OD O Dd) ags' W) (upd H4 Dd (.lst (acc ++ [v]))) ys acc' ∧ ys.length ≤ i + 1 ∧ ys ++ w1 = zs := by
        intro ags4 H4 y v e4 r4 hy rv
        subst hy
        have hD4 : H4 Dd = some (.lst acc) := e4.same _ _ (fun z => r2.ap _ z (.inr rfl)) hacc2
        have hys4 := VRs.le (e4.le (O := OD O Dd) (W := W)) _ _ hys2
        have l4 : Le ags4 (exs (OD O Dd) ags4 W) H4 ags4 (exs (OD O Dd) ags4 W) (upd H4 Dd (.lst (acc ++ [v]))) :=
          ⟨List.prefix_refl _, fun a _ z => z, fun a u n q => by rw [upd_ne fun z => n (.inl (.inr z))]; exact q⟩
        have e14 : Ext ags1 H1 ags4 H4 := e12.trans e4 r2
        refine ⟨acc, hD4, by rw [hys4.length]; omega, ags4, ys ++ [y], acc ++ [v], ⟨e14.pre, fun a o n q => ?_, e14.new⟩, r4.putD (.inr rfl) (.inl ⟨_, upd_same⟩), upd_same, VRs.le l4 _ _ (hys4.append (VRs.one rv)), ?_, by rw [List.append_assoc]; exact hz⟩
        · rw [upd_ne fun z => by rw [z, hD] at q; cases q]
          exact e14.same a o n q
        · rw [List.length_append]; show ys.length + 1 ≤ i + 1; omega
      refine ⟨OD O Dd, ags', W, wipeG σ own, S', d, σ1, sit2, vr, hset, fun σV2 sit3 hw => ⟨?_, ?_⟩⟩
      · rw [hw own hsub]
        exact wipe_wipe σV own
      · cases c with
        | none =>
          have hy2 : (R.nox (evE G e σ1 S')).bnd (fun y S3 => R.ok [y] S3) = .ok y1 S2 := by
            simp only [evC] at hy1
            exact hy1
          obtain ⟨y, S4, hy, hy3⟩ := bnd_eq_ok hy2
          obtain ⟨rfl, rfl⟩ : [y] = y1 ∧ S4 = S2 := by cases hy3; exact ⟨rfl, rfl⟩
          dsimp only [tC, tYes]
          refine iteT ?_
          refine ⟨OD O Dd, ags', W, σ1, S', sit3, ?_⟩
          rw [nox_ok_of hy]
          exact fun ags4 H4 e4 r4 v rv => fin1 e4 r4 rfl rv
        | some c =>
          simp only [evC] at hy1
          obtain ⟨k, S4, hk, hy2⟩ := bnd_eq_ok hy1
          refine ⟨OD O Dd, ags', W, σ1, S', sit3, ?_⟩
          rw [nox_ok_of hk]
          intro ags4 H4 e4 r4
          cases k with
          | false =>
            obtain ⟨rfl, rfl⟩ : [] = y1 ∧ S4 = S2 := by cases hy2; exact ⟨rfl, rfl⟩
            exact iteF (fin0 e4 r4 rfl)
          | true =>
            have hy2 : (R.nox (evE G e σ1 S4)).bnd (fun y S3 => R.ok [y] S3) = .ok y1 S2 := hy2
            obtain ⟨y, S5, hy, hy3⟩ := bnd_eq_ok hy2
            obtain ⟨rfl, rfl⟩ : [y] = y1 ∧ S5 = S2 := by cases hy3; exact ⟨rfl, rfl⟩
            refine iteT ⟨OD O Dd, ags4, W, σ1, S4, sit3.ext e4 r4, ?_⟩
            rw [nox_ok_of hy]
            exact fun ags5 H5 e5 r5 v rv => fin1 (e4.trans e5 r4) r5 rfl rv
    · -- the end
      have hi' : i = xs.length := by omega
      subst hi'
      rw [List.drop_length] at hws
      unfold lcGo at hws
      obtain ⟨rfl, rfl⟩ : [] = ws ∧ S' = Sn := by cases hws; exact ⟨rfl, rfl⟩
      rw [List.append_nil] at hz
      subst hz
      have r1' := r1.dropD
      refine .inl ⟨jstop (Nat.le_refl _), hK ys S' ags' H e1 r1' (.inr ⟨Dd, rfl, hD, ?_, acc, hacc, ?_⟩) (h _ _ e1 r1')⟩
      · rintro (q | q | ⟨j, q⟩)
        · exact sit.sto.on Dd q hD
        · exact r1.ap Dd q (.inr rfl)
        · exact (r1.wn j Dd q).1 (.inr rfl)
      · refine VRs.le (Ex := exs (OD O Dd) ags' W) ⟨List.prefix_refl _, fun a _ q => ?_, fun a u _ q => q⟩ _ _ hys
        rcases q with q | q
        · rcases q with q | q
          · exact .inl (.inl q)
          · exact .inr q
        · exact .inl (.inr q)

theorem lcGoX_noexc {nx : List D → Nat → Option D} {f : D → List D → R (List D)} {n : Nat} (hf : ∀ x S e S', f x S ≠ .exc e S') : ∀ (k i : Nat) (S : List D) (e : D) (S' : List D), lcGoX nx f n k i S ≠ .exc e S'
  | 0, i, S, e, S' => by unfold lcGoX; intro h; cases h
  | k + 1, i, S, e, S' => by
    unfold lcGoX
    split
    · split
      · exact bnd_noexc (fun _ _ => hf _ _ _ _) (fun _ _ _ _ => bnd_noexc (fun _ _ => lcGoX_noexc hf k _ _ _ _) (fun _ _ _ _ h => by cases h) _ _) _ _
      · intro h; cases h
    · intro h; cases h
/-- a walk that hangs on a shared list -/
def ItX (M : Nm) (O : Adr) (ags : List Addr) (W : Nat → Option Addr) (H₀ : Hp) (J : It) (n : Nat) (nx : List D → Nat → Option D) : Prop := ∀ ags' O' W' H' S', Le ags (exs O ags W) H₀ ags' (exs O' ags' W') H' → SR M O' ags' W' H' S' → ∀ xs, S'[n]? = some (.lst xs) → ∀ i, match nx xs i with
  | some d => J.go i H' ∧ ∀ x H'', J.yld i H' x H'' → VR M ags' (exs O' ags' W') H'' d x ∧ (H'' = H' ∨ ∃ p o, H' p = none ∧ H'' = upd H' p o)
  | none => J.stop i H'
theorem pre_getX {l l' : List Addr} {n : Nat} {a : Addr} (h : l <+: l') (e : l[n]? = some a) : l'[n]? = some a := by
  obtain ⟨r, rfl⟩ := h
  rw [List.getElem?_append_left (List.getElem?_eq_some_iff.mp e).1]
  exact e
theorem itx_list {O : Adr} {ags : List Addr} {W : Nat → Option Addr} {H : Hp} {n : Nat} {a : Addr} (ha : ags[n]? = some a) (K : PySem.W.Frag) : ItX M O ags W H (Itl K a) n nxL := by
  intro ags' O' W' H' S' l r xs hS i
  obtain ⟨vs, hH, hv⟩ := r.at_ n (.lst xs) a hS (pre_getX l.pre ha)
  unfold nxL
  cases hd : xs[i]? with
  | none => exact ⟨vs, .inl (.inl hH), by rw [hv.length]; exact List.getElem?_eq_none_iff.mp hd⟩
  | some d =>
    obtain ⟨v, e, rv⟩ := hv.get hd
    refine ⟨⟨vs, v, .inl (.inl hH), e⟩, fun x H'' y => ?_⟩
    obtain ⟨rfl, y⟩ := y
    have z := y vs (.inl (.inl hH))
    rw [e] at z
    cases z
    exact ⟨rv, .inl rfl⟩
theorem itx_zip {O : Adr} {ags : List Addr} {W : Nat → Option Addr} {H : Hp} {n : Nat} {a b : Addr} {es : List D} {ws : List V} (ha : ags[n]? = some a) (hb : H b = some (.lst ws)) (nb : ¬ exs O ags W b) (hw : VRs M ags (exs O ags W) H es ws) (K : PySem.W.Frag) : ItX M O ags W H (Itz K a b) n (nxZ es) := by
  intro ags' O' W' H' S' l r xs hS i
  obtain ⟨vs, hH, hv⟩ := r.at_ n (.lst xs) a hS (pre_getX l.pre ha)
  have hb' := l.same b _ nb hb
  have hw' := VRs.le l _ _ hw
  have dom : ∀ p, exs O' ags' W' p → H' p ≠ none := fun p hp => (r.eob hp).ne
  unfold nxZ
  cases e1 : xs[i]? with
  | none =>
    refine ⟨vs, ws, .inl (.inl hH), .inl (.inl hb'), ?_⟩
    have := List.getElem?_eq_none_iff.mp e1
    rw [hv.length]
    omega
  | some x =>
    cases e2 : es[i]? with
    | none =>
      refine ⟨vs, ws, .inl (.inl hH), .inl (.inl hb'), ?_⟩
      have := List.getElem?_eq_none_iff.mp e2
      rw [hv.length, hw.length]
      omega
    | some y =>
      obtain ⟨v, q1, r1⟩ := hv.get e1
      obtain ⟨w, q2, r2⟩ := hw'.get e2
      refine ⟨⟨vs, ws, v, w, .inl (.inl hH), .inl (.inl hb'), q1, q2⟩, fun u H'' yy => ?_⟩
      obtain ⟨T, x', y', rfl, hT, rfl, y1, y2⟩ := yy
      have z1 := y1 vs (.inl (.inl hH))
      have z2 := y2 ws (.inl (.inl hb'))
      rw [q1] at z1; rw [q2] at z2
      cases z1; cases z2
      refine ⟨⟨T, [v, w], rfl, fun z => dom T z hT, upd_same, ?_⟩, .inr ⟨T, _, hT, rfl⟩⟩
      have p : VRs M ags' (exs O' ags' W') H' [x, y] [v, w] := ⟨v, [w], rfl, r1, VRs.one r2⟩
      exact VRs.le (Le.upd hT) _ _ p
theorem lcX_run {nx : List D → Nat → Option D} {J : It} {n fu : Nat} {O : Adr} {ags1 : List Addr} {W : Nat → Option Addr} {σ : Sg} {S1 : List D} {σV : L2.St} {H1 : Hp} {e : Xp} {own : List Nat} {t : Tg} {c : Xpo} {K : D → List D → List Addr → Hp → Prop} {Qd : Hp → Prop} {Dd : Addr}
    (sit : Sit M O ags1 W σ S1 σV H1) (hsub : ∀ i ∈ tgS t, i ∈ own) (h : Pst M O W Wx σV ags1 H1 ((lcGoX nx (lcF G e own t c σ) n fu 0 S1).bnd fun ys S2 => .ok (.lst ys) S2) K) (hfu : fu ≤ sizeLine) (hJ : ItX M O ags1 W H1 J n nx) (hD : H1 Dd = none)
    (hK : ∀ zs Sn ags' H', Ext ags1 H1 ags' H' → SR M O ags' W H' Sn → RelF M O H1 ags' W H' (.lst zs) (.ref Dd) → K (.lst zs) Sn ags' H' → Qd H') :
    ∃ Wi : Nat → Nat → Hp → Prop, (∃ m, Wi 0 m (upd H1 Dd (.lst []))) ∧ ∀ i m H, Wi i m H → (J.stop i H ∧ Qd H) ∨ (J.go i H ∧ ∃ Nx : Hp → Prop, (∀ H', Nx H' → ∃ m', m' < m ∧ Wi (i + 1) m' H') ∧
      ∀ x H', J.yld i H x H' → tG M t x (L2.wipe σV own) H' fun σ2 H2 => L2.wipe σ2 own = L2.wipe σV own ∧ tC G M c σ2 H2 fun b H3 =>
        if b = true then tE G M WF .cap e σ2 H3 fun y H4 => ∃ acc, H4 Dd = some (.lst acc) ∧ acc.length < sizeLine ∧ Nx (upd H4 Dd (.lst (acc ++ [y]))) else Nx H3) := by
  have nox := lcGoX_noexc (nx := nx) (n := n) (lcF_noexc (G := G) (e := e) (own := own) (t := t) (c := c) (σ := σ))
  generalize hf : lcF G e own t c σ = f at h nox
  cases hgo : lcGoX nx f n fu 0 S1 with
  | exc ex S' => exact absurd hgo (nox _ _ _ _ _)
  | stuck => rw [hgo] at h; exact h.elim
  | ok zs Sn =>
    rw [hgo] at h
    have h : ∀ ags' H', Ext ags1 H1 ags' H' → SR M O ags' W H' Sn → K (.lst zs) Sn ags' H' := h
    have sitW := sit.wipe own
    refine ⟨fun i m H => m + i = fu ∧ ∃ ags' S' ys acc, Ext ags1 H1 ags' H ∧ SR M (OD O Dd) ags' W H S' ∧ H Dd = some (.lst acc) ∧ VRs M ags' (exs (OD O Dd) ags' W) H ys acc ∧ ys.length ≤ i ∧
      ∃ ws, lcGoX nx f n m i S' = .ok ws Sn ∧ ys ++ ws = zs, ⟨fu, rfl, ags1, S1, [], [], Ext.upd hD, sit.sto.withD hD (.inl ⟨[], upd_same⟩), upd_same, rfl, Nat.le_refl _, zs, hgo, rfl⟩, ?_⟩
    rintro i m H ⟨hmi, ags', S', ys, acc, e1, r1, hacc, hys, hle, ws, hws, hz⟩
    have lD : Le ags1 (exs O ags1 W) H1 ags' (exs (OD O Dd) ags' W) H := by
      refine ⟨e1.pre, fun a ha q => ?_, fun a o n q => e1.same a o (fun z => n (.inr (.inl z))) q⟩
      rcases q with (q | q) | q | q
      · exact .inl q
      · exact absurd (q ▸ hD) ha
      · rcases e1.new a q with q | q
        · exact .inr (.inl q)
        · exact absurd q ha
      · exact .inr (.inr q)
    cases m with
    | zero => cases hws
    | succ m =>
    unfold lcGoX at hws
    split at hws
    rotate_left
    · cases hws
    rename_i xs hS
    have hjx := hJ ags' (OD O Dd) W H S' lD r1 xs hS i
    cases hd : nx xs i with
    | some d =>
      rw [hd] at hws hjx
      obtain ⟨go, yld⟩ := hjx
      have hws : ((f d S').bnd fun ys S1 => (lcGoX nx f n m (i + 1) S1).bnd fun zs S2 => R.ok (ys ++ zs) S2) = .ok ws Sn := hws
      obtain ⟨y1, S2, hy1, hws⟩ := bnd_eq_ok hws
      obtain ⟨w1, S3, hw1, hws⟩ := bnd_eq_ok hws
      obtain ⟨rfl, rfl⟩ : y1 ++ w1 = ws ∧ S3 = Sn := by cases hws; exact ⟨rfl, rfl⟩
      refine .inr ⟨go, fun H' => ∃ ags' ys acc, Ext ags1 H1 ags' H' ∧ SR M (OD O Dd) ags' W H' S2 ∧ H' Dd = some (.lst acc) ∧ VRs M ags' (exs (OD O Dd) ags' W) H' ys acc ∧ ys.length ≤ i + 1 ∧ ys ++ w1 = zs, fun H' ⟨ags2, ys2, acc2, q1, q2, q3, q4, q5, q6⟩ => ⟨m, by omega, by omega, ags2, S2, ys2, acc2, q1, q2, q3, q4, q5, w1, hw1, q6⟩, fun x H' hy => ?_⟩
      obtain ⟨vr, hH⟩ := yld x H' hy
      -- the state behind the step
      have st : Ext ags' H ags' H' ∧ SR M (OD O Dd) ags' W H' S' ∧ H' Dd = some (.lst acc) := by
        rcases hH with rfl | ⟨p, o, hp, rfl⟩
        · exact ⟨Ext.refl, r1, hacc⟩
        · exact ⟨Ext.upd hp, r1.upd hp, by rw [upd_ne fun z => by rw [← z, hacc] at hp; cases hp]; exact hacc⟩
      obtain ⟨e2, r2, hacc2⟩ := st
      have hys2 := VRs.le (e2.le (O := OD O Dd) (W := W)) _ _ hys
      have e12 : Ext ags1 H1 ags' H' := e1.trans e2 r1
      have sit2 : Sit M (OD O Dd) ags' W (wipeG σ own) S' (L2.wipe σV own) H' := by
        refine (sitW.extL lD (fun j a hw => ?_) r1).ext e2 r2
        obtain ⟨o, ho⟩ := Option.ne_none_iff_exists'.mp (sit.sto.wn j a hw).2.2
        rw [ho]
        exact e1.same a o (sit.sto.wn j a hw).2.1 ho
      rw [← hf] at hy1
      unfold lcF at hy1
      split at hy1
      · cases hy1
      rename_i σ1 hset
      have fin0 : ∀ {ags4 : List Addr} {H4 : Hp}, Ext ags' H' ags4 H4 → SR M (OD O Dd) ags4 W H4 S2 → y1 = [] → ∃ ags' ys acc, Ext ags1 H1 ags' H4 ∧ SR M (OD O Dd) ags' W H4 S2 ∧ H4 Dd = some (.lst acc) ∧ VRs M ags' (exs (OD O Dd) ags' W) H4 ys acc ∧ ys.length ≤ i + 1 ∧ ys ++ w1 = zs := by
        intro ags4 H4 e4 r4 hy
        subst hy
        exact ⟨ags4, ys, acc, e12.trans e4 r2, r4, e4.same _ _ (fun z => r2.ap _ z (.inr rfl)) hacc2, VRs.le e4.le _ _ hys2, by omega, by simpa using hz⟩
      have fin1 : ∀ {ags4 : List Addr} {H4 : Hp} {y : D} {v : V}, Ext ags' H' ags4 H4 → SR M (OD O Dd) ags4 W H4 S2 → y1 = [y] → VR M ags4 (exs (OD O Dd) ags4 W) H4 y v →
          ∃ acc, H4 Dd = some (.lst acc) ∧ acc.length < sizeLine ∧ ∃ ags' ys acc', Ext ags1 H1 ags' (upd H4 Dd (.lst (acc ++ [v]))) ∧ SR M (OD O Dd) ags' W (upd H4 Dd (.lst (acc ++ [v]))) S2 ∧ (upd H4 Dd (.lst (acc ++ [v]))) Dd = some (.lst acc') ∧
            VRs M ags' (exs (OD O Dd) ags' W) (upd H4 Dd (.lst (acc ++ [v]))) ys acc' ∧ ys.length ≤ i + 1 ∧ ys ++ w1 = zs := by
        intro ags4 H4 y v e4 r4 hy rv
        subst hy
        have hD4 : H4 Dd = some (.lst acc) := e4.same _ _ (fun z => r2.ap _ z (.inr rfl)) hacc2
        have hys4 := VRs.le (e4.le (O := OD O Dd) (W := W)) _ _ hys2
        have l4 : Le ags4 (exs (OD O Dd) ags4 W) H4 ags4 (exs (OD O Dd) ags4 W) (upd H4 Dd (.lst (acc ++ [v]))) :=
          ⟨List.prefix_refl _, fun a _ z => z, fun a u n q => by rw [upd_ne fun z => n (.inl (.inr z))]; exact q⟩
        have e14 : Ext ags1 H1 ags4 H4 := e12.trans e4 r2
        refine ⟨acc, hD4, by rw [hys4.length]; omega, ags4, ys ++ [y], acc ++ [v], ⟨e14.pre, fun a o n q => ?_, e14.new⟩, r4.putD (.inr rfl) (.inl ⟨_, upd_same⟩), upd_same, VRs.le l4 _ _ (hys4.append (VRs.one rv)), ?_, by rw [List.append_assoc]; exact hz⟩
        · rw [upd_ne fun z => by rw [z, hD] at q; cases q]
          exact e14.same a o n q
        · rw [List.length_append]; show ys.length + 1 ≤ i + 1; omega
      refine ⟨OD O Dd, ags', W, wipeG σ own, S', d, σ1, sit2, vr, hset, fun σV2 sit3 hw => ⟨?_, ?_⟩⟩
      · rw [hw own hsub]
        exact wipe_wipe σV own
      · cases c with
        | none =>
          have hy2 : (R.nox (evE G e σ1 S')).bnd (fun y S3 => R.ok [y] S3) = .ok y1 S2 := by
            simp only [evC] at hy1
            exact hy1
          obtain ⟨y, S4, hy, hy3⟩ := bnd_eq_ok hy2
          obtain ⟨rfl, rfl⟩ : [y] = y1 ∧ S4 = S2 := by cases hy3; exact ⟨rfl, rfl⟩
          dsimp only [tC, tYes]
          refine iteT ?_
          refine ⟨OD O Dd, ags', W, σ1, S', sit3, ?_⟩
          rw [nox_ok_of hy]
          exact fun ags4 H4 e4 r4 v rv => fin1 e4 r4 rfl rv
        | some c =>
          simp only [evC] at hy1
          obtain ⟨k, S4, hk, hy2⟩ := bnd_eq_ok hy1
          refine ⟨OD O Dd, ags', W, σ1, S', sit3, ?_⟩
          rw [nox_ok_of hk]
          intro ags4 H4 e4 r4
          cases k with
          | false =>
            obtain ⟨rfl, rfl⟩ : [] = y1 ∧ S4 = S2 := by cases hy2; exact ⟨rfl, rfl⟩
            exact iteF (fin0 e4 r4 rfl)
          | true =>
            have hy2 : (R.nox (evE G e σ1 S4)).bnd (fun y S3 => R.ok [y] S3) = .ok y1 S2 := hy2
            obtain ⟨y, S5, hy, hy3⟩ := bnd_eq_ok hy2
            obtain ⟨rfl, rfl⟩ : [y] = y1 ∧ S5 = S2 := by cases hy3; exact ⟨rfl, rfl⟩
            refine iteT ⟨OD O Dd, ags4, W, σ1, S4, sit3.ext e4 r4, ?_⟩
            rw [nox_ok_of hy]
            exact fun ags5 H5 e5 r5 v rv => fin1 (e4.trans e5 r4) r5 rfl rv
    | none =>
      rw [hd] at hws hjx
      obtain ⟨rfl, rfl⟩ : [] = ws ∧ S' = Sn := by cases hws; exact ⟨rfl, rfl⟩
      rw [List.append_nil] at hz
      subst hz
      have r1' := r1.dropD
      refine .inl ⟨hjx, hK ys S' ags' H e1 r1' (.inr ⟨Dd, rfl, hD, ?_, acc, hacc, ?_⟩) (h _ _ e1 r1')⟩
      · rintro (q | q | ⟨j, q⟩)
        · exact sit.sto.on Dd q hD
        · exact r1.ap Dd q (.inr rfl)
        · exact (r1.wn j Dd q).1 (.inr rfl)
      · refine VRs.le (Ex := exs (OD O Dd) ags' W) ⟨List.prefix_refl _, fun a _ q => ?_, fun a u _ q => q⟩ _ _ hys
        rcases q with q | q
        · rcases q with q | q
          · exact .inl (.inl q)
          · exact .inr q
        · exact .inl (.inr q)

/-! ### the block -/
theorem blk_ok {N : List Str} {sc scope : Scope} {own : List Nat} (h : blkB N sc scope own = true) : ∃ ow : List (Str × Nat), ow.map (·.2) = own ∧ BlkOk N sc scope ow := by
  unfold blkB at h
  simp only [Bool.and_eq_true, List.all_eq_true] at h
  obtain ⟨⟨⟨⟨h1, h2⟩, h3⟩, h4⟩, h5⟩ := h
  refine ⟨own.map fun i => (N.getD i "", i), by rw [List.map_map]; exact List.map_id own, eq_of_beq h1, fun y hy => by simpa using h2 y hy, fun p hp => ?_, fun y hy e => ?_, fun y hy e => ?_⟩
  · obtain ⟨i, hi, rfl⟩ := List.mem_map.mp hp
    obtain ⟨x, hx⟩ := Option.isSome_iff_exists.mp (h3 i hi)
    show N[i]? = some (N.getD i "")
    rw [List.getD_eq_getElem?_getD, hx]; rfl
  · have := h4 y hy
    rw [e] at this
    simpa using this
  · have := h5 y hy
    have c : (y.2 == NameKind.local || y.2 == NameKind.cell) = true := by rcases e with e | e <;> (rw [e]; rfl)
    rw [c] at this
    simp only [Bool.not_true, Bool.false_or, Bool.or_eq_true, List.any_eq_true, Bool.not_eq_true'] at this
    rcases this with ⟨i, hi, e⟩ | e
    · refine .inl (List.mem_map.mpr ⟨(N.getD i "", i), List.mem_map.mpr ⟨i, hi, rfl⟩, ?_⟩)
      have e' : N[i]? = some y.1 := by simpa using e
      show N.getD i "" = y.1
      rw [List.getD_eq_getElem?_getD, e']; rfl
    · exact .inr fun hm => by
        have : N.contains y.1 = true := List.contains_iff_mem.mpr hm
        rw [e] at this; cases this
theorem fold_of {iter : Expr} {env : PySem.Env} (h : notSet iter = true) : ∀ x, foldedSetIterable iter env x = pure x := by
  cases iter <;> first | (intro _; rfl) | cases h
theorem Cz.blk (Z : Cz z X M G Wx) (s : Shared) (H : Hp) (C : Addr) (cl : List (Str × Addr)) (fp : List Addr) (scope : Scope) : Cz { z with sc := relS scope z.sc, raw := some scope } (X.blk s H scope (compEnvC scope cl C X.env) fp) M G WF := by
  refine ⟨by show relS scope X.env.scope = _; rw [Z.env], Z.N, Z.nd, Z.calm, Z.hd, Z.K, Z.gd, Z.un, fun f x n q h => ?_, Z.gv, Z.blt, Z.dig, fun x h => ?_, Z.fv, Z.fo, Z.ct, fun u s' h => ?_⟩
  · obtain ⟨f', fd, ps, k, a⟩ := (Z.fn f x n q h).ex
    exact ⟨f', fd, ps, k, a⟩
  · exact h
  · obtain ⟨a, B, sI, pins, σ, H, cls, d, _, _, _, _, _, _, _, _, w⟩ := h
    exact w
theorem lc_imp {tt : TT} {ce : Xp} {own : List Nat} {t : Tg} {it : Iq} {cc : Xpo} {m : Mo} (hsub : (tgS t).all own.contains = true) : ∀ σV H Q, tE G M Wx m (.lc ce own t it cc) σV H Q → tLc (tI G M Wx it) (tG M t) (tC G M cc) (tE G M WF .cap ce) own σV H Q := by
  intro σV H Q h
  obtain ⟨O, ags, W, σ, S, sit, h⟩ := h
  rw [evE_lc] at h
  refine ⟨O, ags, W, σ, S, sit, (Pst.bnd h).imp fun xs S1 ags1 H1 e1 r1 h1 J hlen hJ D hD => ?_⟩
  refine lc_run (sit.ext e1 r1) (fun i hi => ?_) h1 hlen hJ hD fun zs Sn ags' H' _ _ rf q => q _ (RelM.ofF (RelF.back e1 r1 rf))
  exact List.contains_iff_mem.mp (List.all_eq_true.mp hsub i hi)
theorem e_lc {x tg iter : Expr} {ifs : List Expr} {scope : Scope} {pos : Pos} {ce : Xp} {own : List Nat} {t : Tg} {it : Iq} {cc : Xpo} {m : Mo} (Z : Cz z X M G Wx) (hb : blkB z.N z.sc scope own = true) (hns : notSet iter = true) (hi : PI X tg iter (tI G M Wx it)) (hsub : (tgS t).all own.contains = true)
    (hg : ∀ (s : Shared) (H : Hp) (C : Addr) (cl : List (Str × Addr)) (fp : List Addr), PG (X.blk s H scope (compEnvC scope cl C X.env) fp) tg (tG M t)) (ht : ∀ (s : Shared) (H : Hp) (C : Addr) (cl : List (Str × Addr)) (fp : List Addr), PTs (X.blk s H scope (compEnvC scope cl C X.env) fp) ifs (tC G M cc))
    (he : ∀ (s : Shared) (H : Hp) (C : Addr) (cl : List (Str × Addr)) (fp : List Addr), PE (X.blk s H scope (compEnvC scope cl C X.env) fp) x (tE G M WF .cap ce)) : PE X (.ListComp x [⟨tg, iter, ifs, 0⟩] scope pos) (tE G M Wx m (.lc ce own t it cc)) := by
  rw [← Z.N, ← Z.env] at hb
  obtain ⟨ow, ho, ok⟩ := blk_ok hb
  refine PE.imp (pe_lc Z.calm Z.nd hi ok hg ht he (fold_of hns)) fun σV H Q h => ?_
  rw [ho]
  exact lc_imp (tt := tYes) hsub _ _ _ h
/-- a walk over a shared list -/
def tIX (K : PySem.W.Frag) (G : PV.Env) (M : Nm) (Wx : WX) (ca : Xp) : TI := fun σV H RR => ∃ O ags W σ S, Sit M O ags W σ S σV H ∧ Pst M O W Wx σV ags H (evE G ca σ S) fun d S1 ags1 H1 => ∃ n xs, d = .ref n ∧ S1[n]? = some (.lst xs) ∧ ∀ a, ags1[n]? = some a → RR (Itl K a) H1
theorem i_ref {a tg : Expr} {ca : Xp} (ha : PE X a (tE G M Wx .cap ca)) : PI X tg a (tIX X.K G M Wx ca) := by
  refine ⟨fun pins s σV H RR I h => ?_⟩
  obtain ⟨O, ags, W, σ, S, sit, h⟩ := h
  refine thn (ha.run pins s σV H (fun v H1 => ∃ d S1 ags1, SR M O ags1 W H1 S1 ∧ VR M ags1 (exs O ags1 W) H1 d v ∧ ∃ n xs, d = .ref n ∧ S1[n]? = some (.lst xs) ∧ ∀ a, ags1[n]? = some a → RR (Itl X.K a) H1) I
    ⟨O, ags, W, σ, S, sit, h.imp fun x S1 ags1 H1 e1 r1 h1 v rv => ⟨x, S1, ags1, r1, rv, h1⟩⟩) fun u s1 ⟨v, H1, I1, ru, d, S1, ags1, sr, rv, n, xs, ed, hS, k⟩ => ?_
  subst ed
  obtain ⟨l, hl, rfl⟩ := rv
  cases ru
  obtain ⟨vs, hH, hv⟩ := sr.at_ n (.lst xs) l hS hl
  obtain ⟨its, rvs, pl, hz⟩ := I1.list (.inl (.inl hH))
  exact wpAny_pyIter_list pl.isList (pi_one (tk := s1.toks) I1 _ (turn_list l _) ⟨_, Heap.get?_push_size _ rfl, rfl, rfl⟩ (k l hl))
theorem lcX_imp {K : PySem.W.Frag} {ce ca : Xp} {own : List Nat} {t : Tg} {cc : Xpo} {m : Mo} (hsub : (tgS t).all own.contains = true) : ∀ σV H Q, tE G M Wx m (.lcR ce own t ca cc) σV H Q → tLc (tIX K G M Wx ca) (tG M t) (tC G M cc) (tE G M WF .cap ce) own σV H Q := by
  intro σV H Q h
  obtain ⟨O, ags, W, σ, S, sit, h⟩ := h
  rw [evE_lcR] at h
  refine ⟨O, ags, W, σ, S, sit, (Pst.bnd h).imp fun d S1 ags1 H1 e1 r1 h1 => ?_⟩
  cases d <;> first | exact h1.elim | skip
  rename_i n
  cases hS : S1[n]? with
  | none => simp only [hS] at h1; exact h1.elim
  | some ob =>
    simp only [hS] at h1
    cases ob <;> first | exact h1.elim | skip
    rename_i xs
    by_cases hz : xs.length < SZ
    · simp only [if_pos hz] at h1
      refine ⟨n, xs, rfl, hS, fun a ha D hD => ?_⟩
      refine lcX_run (sit.ext e1 r1) (fun i hi => ?_) h1 (by rw [sizeLine_eq]; exact hz) (itx_list ha K) hD fun zs Sn ags' H' _ _ rf q => q _ (RelM.ofF (RelF.back e1 r1 rf))
      exact List.contains_iff_mem.mp (List.all_eq_true.mp hsub i hi)
    · simp only [if_neg hz] at h1
      exact h1.elim
theorem e_lcR {x tg iter : Expr} {ifs : List Expr} {scope : Scope} {pos : Pos} {ce ca : Xp} {own : List Nat} {t : Tg} {cc : Xpo} {m : Mo} (Z : Cz z X M G Wx) (hb : blkB z.N z.sc scope own = true) (hns : notSet iter = true) (hi : PE X iter (tE G M Wx .cap ca)) (hsub : (tgS t).all own.contains = true)
    (hg : ∀ (s : Shared) (H : Hp) (C : Addr) (cl : List (Str × Addr)) (fp : List Addr), PG (X.blk s H scope (compEnvC scope cl C X.env) fp) tg (tG M t)) (ht : ∀ (s : Shared) (H : Hp) (C : Addr) (cl : List (Str × Addr)) (fp : List Addr), PTs (X.blk s H scope (compEnvC scope cl C X.env) fp) ifs (tC G M cc))
    (he : ∀ (s : Shared) (H : Hp) (C : Addr) (cl : List (Str × Addr)) (fp : List Addr), PE (X.blk s H scope (compEnvC scope cl C X.env) fp) x (tE G M WF .cap ce)) : PE X (.ListComp x [⟨tg, iter, ifs, 0⟩] scope pos) (tE G M Wx m (.lcR ce own t ca cc)) := by
  rw [← Z.N, ← Z.env] at hb
  obtain ⟨ow, ho, ok⟩ := blk_ok hb
  refine PE.imp (pe_lc Z.calm Z.nd (i_ref hi) ok hg ht he (fold_of hns)) fun σV H Q h => ?_
  rw [ho]
  exact lcX_imp hsub _ _ _ h
def tZX (K : PySem.W.Frag) (G : PV.Env) (M : Nm) (Wx : WX) (ab : Xps) : TI := fun σV H RR => ∃ O ags W σ S, Sit M O ags W σ S σV H ∧ Pst M O W Wx σV ags H (evEs G ab σ S) fun ds S1 ags1 H1 => ∃ x ys, ds = [x, .lst ys] ∧
  ((∃ n xs, x = .ref n ∧ S1[n]? = some (.lst xs) ∧ ∀ a b ws, ags1[n]? = some a → H1 b = some (.lst ws) → ¬ exs O ags1 W b → VRs M ags1 (exs O ags1 W) H1 ys ws → RR (Itz K a b) H1) ∨
    ∃ xs, x = .lst xs ∧ ∀ J, (List.zipWith (fun a b => D.tup [a, b]) xs ys).length ≤ sizeLine → ItD M ags1 (exs O ags1 W) H1 J (List.zipWith (fun a b => D.tup [a, b]) xs ys) → RR J H1)
theorem zipO_eq {e : Expr} {zn : Str} {a b : Expr} (h : zipO e = some (zn, a, b)) : ∃ p q, e = .Call (.Name zn p) [a, b] [] q := by
  unfold zipO at h
  split at h
  · cases h; exact ⟨_, _, rfl⟩
  · cases h
theorem i_zipX {a b : Expr} {elts : List Expr} {kk : Nat} {tpos p pos : Pos} {ab : Xps} (Z : Cz z X M G Wx) (hg : glB z.sc "zip" = true) (args : PA X [a, b] (tA G M Wx true ab)) (hs : notStar a = true) (hs2 : notStar b = true) :
    PI X (.Tuple elts kk tpos) (.Call (.Name "zip" p) [a, b] [] pos) (tZX X.K G M Wx ab) := by
  refine PI.imp (RZ.pi_zipA (gl_of Z hg) (Z.blt _ (by decide)) (PA.lb args) (star_of hs) (by rw [star_of hs2]; rfl)) fun σV H RR h => ?_
  obtain ⟨O, ags, W, σ, S, sit, h⟩ := h
  refine ⟨O, ags, W, σ, S, sit, h.imp fun ds S1 ags1 H1 e1 r1 h1 vs rvs lb => ?_⟩
  have rvs : VRs M ags1 (exs O ags1 W) H1 ds vs := rvs
  obtain ⟨x, ys, rfl, h1⟩ := h1
  obtain ⟨v1, t1, rfl, q1, v2, t2, rfl, q2, e⟩ := rvs
  cases (show t2 = [] from e)
  obtain ⟨l2, w2, rfl, n2, a2, b2⟩ := q2
  rcases h1 with ⟨n, xs, rfl, hS, k⟩ | ⟨xs, rfl, k⟩
  · obtain ⟨l1, hl, rfl⟩ := q1
    obtain ⟨w1, hH, hv⟩ := r1.at_ n (.lst xs) l1 hS hl
    exact ⟨l1, l2, w1, w2, rfl, .inl ⟨.inl (.inl hH), .inl (.inl a2), k l1 l2 w2 hl a2 n2 b2⟩⟩
  · obtain ⟨l1, w1, rfl, n1, a1, b1⟩ := q1
    refine ⟨l1, l2, w1, w2, rfl, .inl ⟨.inl (.inl a1), .inl (.inl a2), k _ ?_ (itd_zip a1 n1 b1 a2 n2 b2 _)⟩⟩
    have := lb l1 w1 (.inl a1)
    rw [b1.length] at this
    rw [List.length_zipWith]
    omega
theorem lcZ_imp {K : PySem.W.Frag} {ce : Xp} {ab : Xps} {own : List Nat} {t : Tg} {cc : Xpo} {m : Mo} (hsub : (tgS t).all own.contains = true) : ∀ σV H Q, tE G M Wx m (.lcZ ce own t ab cc) σV H Q → tLc (tZX K G M Wx ab) (tG M t) (tC G M cc) (tE G M WF .cap ce) own σV H Q := by
  intro σV H Q h
  obtain ⟨O, ags, W, σ, S, sit, h⟩ := h
  rw [evE_lcZ] at h
  refine ⟨O, ags, W, σ, S, sit, (Pst.bnd h).imp fun ds S1 ags1 H1 e1 r1 h1 => ?_⟩
  have hsub' : ∀ i ∈ tgS t, i ∈ own := fun i hi => List.contains_iff_mem.mp (List.all_eq_true.mp hsub i hi)
  split at h1
  · rename_i n ys
    refine ⟨.ref n, ys, rfl, .inl ?_⟩
    cases hS : S1[n]? with
    | none => simp only [hS] at h1; exact h1.elim
    | some ob =>
      simp only [hS] at h1
      cases ob <;> first | exact h1.elim | skip
      rename_i xs
      by_cases hz : xs.length < SZ
      · simp only [if_pos hz] at h1
        refine ⟨n, xs, rfl, hS, fun a b ws ha hb nb hw D hD => ?_⟩
        exact lcX_run (sit.ext e1 r1) hsub' h1 (by rw [sizeLine_eq]; exact hz) (itx_zip ha hb nb hw K) hD fun zs Sn ags' H' _ _ rf q => q _ (RelM.ofF (RelF.back e1 r1 rf))
      · simp only [if_neg hz] at h1
        exact h1.elim
  · rename_i xs ys
    refine ⟨.lst xs, ys, rfl, .inr ⟨xs, rfl, fun J hlen hJ D hD => ?_⟩⟩
    exact lc_run (sit.ext e1 r1) hsub' h1 hlen hJ hD fun zs Sn ags' H' _ _ rf q => q _ (RelM.ofF (RelF.back e1 r1 rf))
  · exact h1.elim
theorem e_lcZ {x tg a b : Expr} {ifs : List Expr} {scope : Scope} {pos p1 p2 : Pos} {ce : Xp} {ab : Xps} {own : List Nat} {t : Tg} {cc : Xpo} {m : Mo} (Z : Cz z X M G Wx) (hb : blkB z.N z.sc scope own = true) (hz : glB z.sc "zip" = true) (ht0 : isTup tg = true) (h1 : PA X [a, b] (tA G M Wx true ab)) (hs : notStar a = true) (hs2 : notStar b = true) (hsub : (tgS t).all own.contains = true)
    (hg : ∀ (s : Shared) (H : Hp) (C : Addr) (cl : List (Str × Addr)) (fp : List Addr), PG (X.blk s H scope (compEnvC scope cl C X.env) fp) tg (tG M t)) (ht : ∀ (s : Shared) (H : Hp) (C : Addr) (cl : List (Str × Addr)) (fp : List Addr), PTs (X.blk s H scope (compEnvC scope cl C X.env) fp) ifs (tC G M cc))
    (he : ∀ (s : Shared) (H : Hp) (C : Addr) (cl : List (Str × Addr)) (fp : List Addr), PE (X.blk s H scope (compEnvC scope cl C X.env) fp) x (tE G M WF .cap ce)) : PE X (.ListComp x [⟨tg, .Call (.Name "zip" p1) [a, b] [] p2, ifs, 0⟩] scope pos) (tE G M Wx m (.lcZ ce own t ab cc)) := by
  rw [← Z.N, ← Z.env] at hb
  obtain ⟨ow, ho, ok⟩ := blk_ok hb
  cases tg <;> first | (cases ht0; done) | skip
  refine PE.imp (pe_lc Z.calm Z.nd (i_zipX Z hz h1 hs hs2) ok hg ht he (fold_of rfl)) fun σV H Q h => ?_
  rw [ho]
  exact lcZ_imp hsub _ _ _ h
/-- name = [..] -/
theorem e_setLc {i : Nat} {y : Str} {py spos : Pos} {x tg iter : Expr} {ifs : List Expr} {scope : Scope} {pos : Pos} {ce : Xp} {own : List Nat} {t : Tg} {it : Iq} {cc : Xpo} {m : Mo} (Z : Cz z X M G Wx) (hb : blkB z.N z.sc scope own = true) (hns : notSet iter = true) (hi : PI X tg iter (tI G M Wx it)) (hsub : (tgS t).all own.contains = true)
    (hg : ∀ (s : Shared) (H : Hp) (C : Addr) (cl : List (Str × Addr)) (fp : List Addr), PG (X.blk s H scope (compEnvC scope cl C X.env) fp) tg (tG M t)) (ht : ∀ (s : Shared) (H : Hp) (C : Addr) (cl : List (Str × Addr)) (fp : List Addr), PTs (X.blk s H scope (compEnvC scope cl C X.env) fp) ifs (tC G M cc))
    (he : ∀ (s : Shared) (H : Hp) (C : Addr) (cl : List (Str × Addr)) (fp : List Addr), PE (X.blk s H scope (compEnvC scope cl C X.env) fp) x (tE G M WF .cap ce))
    (hk : z.sc.kind = .function) (hy : z.N[i]? = some y) (hyl : z.sc.names.lookup y = some .local) (hl : (py.line == pos.line) = true) (hany : (scope.names.any fun (n, k) => n == y && (k == .local || k == .cell)) = false) :
    PS X (.Assign [.Name y py] (.ListComp x [⟨tg, iter, ifs, 0⟩] scope pos) spos) (tAsg (tE G M Wx m (.lc ce own t it cc)) (gName i)) := by
  rw [← Z.N, ← Z.env] at hb
  obtain ⟨ow, ho, ok⟩ := blk_ok hb
  rw [← Z.env] at hk hyl
  refine PS.imp (ps_setLc (i := i) Z.calm Z.nd (by rw [Z.N]; exact hy) hyl (sw_true hk hyl hl hany) hi ok hg ht he (fold_of hns)) fun Dd σV H h => ?_
  rw [ho]
  exact lc_imp (tt := tYes) hsub _ _ _ h

theorem e_setLcR {i : Nat} {y : Str} {py spos : Pos} {x tg iter : Expr} {ifs : List Expr} {scope : Scope} {pos : Pos} {ce ca : Xp} {own : List Nat} {t : Tg} {cc : Xpo} {m : Mo} (Z : Cz z X M G Wx) (hb : blkB z.N z.sc scope own = true) (hns : notSet iter = true) (hi : PE X iter (tE G M Wx .cap ca)) (hsub : (tgS t).all own.contains = true)
    (hg : ∀ (s : Shared) (H : Hp) (C : Addr) (cl : List (Str × Addr)) (fp : List Addr), PG (X.blk s H scope (compEnvC scope cl C X.env) fp) tg (tG M t)) (ht : ∀ (s : Shared) (H : Hp) (C : Addr) (cl : List (Str × Addr)) (fp : List Addr), PTs (X.blk s H scope (compEnvC scope cl C X.env) fp) ifs (tC G M cc))
    (he : ∀ (s : Shared) (H : Hp) (C : Addr) (cl : List (Str × Addr)) (fp : List Addr), PE (X.blk s H scope (compEnvC scope cl C X.env) fp) x (tE G M WF .cap ce))
    (hk : z.sc.kind = .function) (hy : z.N[i]? = some y) (hyl : z.sc.names.lookup y = some .local) (hl : (py.line == pos.line) = true) (hany : (scope.names.any fun (n, k) => n == y && (k == .local || k == .cell)) = false) :
    PS X (.Assign [.Name y py] (.ListComp x [⟨tg, iter, ifs, 0⟩] scope pos) spos) (tAsg (tE G M Wx m (.lcR ce own t ca cc)) (gName i)) := by
  rw [← Z.N, ← Z.env] at hb
  obtain ⟨ow, ho, ok⟩ := blk_ok hb
  rw [← Z.env] at hk hyl
  refine PS.imp (ps_setLc (i := i) Z.calm Z.nd (by rw [Z.N]; exact hy) hyl (sw_true hk hyl hl hany) (i_ref hi) ok hg ht he (fold_of hns)) fun Dd σV H h => ?_
  rw [ho]
  exact lcX_imp hsub _ _ _ h

/-! ### displays of dicts with their pairs -/
def PRs (M : Nm) (ags : List Addr) (Ex : Adr) (H : Hp) : List D → List (V × V) → Prop
  | [], ps => ps = []
  | k :: v :: r, ps => ∃ a b q, ps = (a, b) :: q ∧ VR M ags Ex H k a ∧ VR M ags Ex H v b ∧ PRs M ags Ex H r q
  | _, _ => False
def tD (G : PV.Env) (M : Nm) (Wx : WX) (es : Xps) : L2.St → Hp → (List (V × V) → Hp → Prop) → Prop := fun σV H Q => ∃ O ags W σ S, Sit M O ags W σ S σV H ∧ Pst M O W Wx σV ags H (evEs G es σ S) fun ds S' ags' H' => ∀ ps, PRs M ags' (exs O ags' W) H' ds ps → Q ps H'
structure PPx (X : Cx) (G : PV.Env) (M : Nm) (Wx : WX) (pos : Pos) (es : Xps) (keys : List (Option Expr)) (vals : List Expr) : Prop where
  ex : ∃ trs, PPs X pos keys vals trs ∧ ∀ σV H Q, tD G M Wx es σV H Q → tPairs trs σV H Q
theorem d_nil {pos : Pos} : PPx X G M Wx pos .nil [] [] := by
  refine ⟨[], pps_nil, fun σV H Q h => ?_⟩
  obtain ⟨O, ags, W, σ, S, sit, h⟩ := h
  simp only [evEs] at h
  exact h.ok sit.sto [] rfl
theorem d_cons {pos : Pos} {k v : Expr} {ck cv : Xp} {r : Xps} {ks : List (Option Expr)} {vs : List Expr} (hk : PE X k (tE G M Wx .cap ck)) (hv : PE X v (tE G M Wx .cap cv)) (hr : PPx X G M Wx pos r ks vs) : PPx X G M Wx pos (.cons ck (.cons cv r)) (some k :: ks) (v :: vs) := by
  obtain ⟨trs, h1, h2⟩ := hr.ex
  refine ⟨_, pps_cons hk hv h1, fun σV H Q h => ?_⟩
  obtain ⟨O, ags, W, σ, S, sit, h⟩ := h
  simp only [evEs] at h
  refine ⟨O, ags, W, σ, S, sit, (Pst.bnd h).imp fun x S1 ags1 H1 e1 r1 h1 a ra => ?_⟩
  have sit1 := sit.ext e1 r1
  rw [bnd_assoc] at h1
  refine ⟨O, ags1, W, σ, S1, sit1, (Pst.bnd h1).imp fun y S2 ags2 H2 e2 r2 h3 b rb => ?_⟩
  have sit2 := sit1.ext e2 r2
  rw [bnd_assoc] at h3
  refine h2 σV H2 _ ⟨O, ags2, W, σ, S2, sit2, (Pst.bnd h3).imp fun zs S3 ags3 H3 e3 r3 h4 q rq => ?_⟩
  have h4 : Pst M O W Wx σV ags3 H3 (R.ok (x :: y :: zs) S3) _ := h4
  exact h4.ok r3 _ ⟨a, b, q, rfl, VR.le e3.le _ _ (VR.le e2.le _ _ ra), VR.le e3.le _ _ rb, rq⟩
/-- keys of a display, values -/
theorem prs_keys {ags : List Addr} {Ex : Adr} {H : Hp} : ∀ {ds : List D} {ps : List (V × V)} {l : List (D × D)}, PRs M ags Ex H ds ps → dpr ds = some l →
    ∃ kvs : List (L2.Key × V), ps = kvs.map (fun kv => (kV kv.1, kv.2)) ∧ l.map (·.1) = kvs.map (fun kv => keyD kv.1) ∧ VRs M ags Ex H (l.map (·.2)) (kvs.map (·.2)) ∧ ∀ kv ∈ kvs, KeyG kv.1
  | [], _, _, h, e => by cases (show _ = [] from h); cases e; exact ⟨[], rfl, rfl, rfl, fun _ h => nomatch h⟩
  | [_], _, _, h, _ => h.elim
  | k :: v :: r, _, _, h, e => by
    obtain ⟨a, b, q, rfl, ra, rb, rq⟩ := h
    unfold dpr at e
    split at e
    · rename_i hk
      obtain ⟨l', e1, rfl⟩ := Option.map_eq_some_iff.mp e
      obtain ⟨kvs, rfl, i2, i3, i4⟩ := prs_keys rq e1
      obtain ⟨kk, rfl, rfl, g⟩ := key_flat hk ra
      exact ⟨(kk, b) :: kvs, rfl, by rw [List.map_cons, List.map_cons, i2], ⟨b, _, rfl, rb, i3⟩, fun kv hkv => (List.mem_cons.mp hkv).elim (fun z => z ▸ g) (i4 kv)⟩
    · cases e
theorem dputs_ok {ags : List Addr} {Ex : Adr} {H : Hp} : ∀ {l : List (D × D)} {kvs : List (L2.Key × V)} {ks ws : List D} {acc : List (L2.Key × V)}, l.map (·.1) = kvs.map (fun kv => keyD kv.1) → VRs M ags Ex H (l.map (·.2)) (kvs.map (·.2)) →
    ks = acc.map (fun kv => keyD kv.1) → VRs M ags Ex H ws (acc.map (·.2)) → (dputs l (ks, ws)).1 = (mergeK acc kvs).map (fun kv => keyD kv.1) ∧ VRs M ags Ex H (dputs l (ks, ws)).2 ((mergeK acc kvs).map (·.2))
  | [], [], _, _, _, _, _, h3, h4 => ⟨h3, h4⟩
  | [], _ :: _, _, _, _, h1, _, _, _ => by cases h1
  | _ :: _, [], _, _, _, h1, _, _, _ => by cases h1
  | (k, v) :: l, (kk, b) :: kvs, ks, ws, acc, h1, h2, h3, h4 => by
    rw [List.map_cons, List.map_cons] at h1
    injection h1 with h1a h1b
    obtain ⟨b', q, e, rb, h2b⟩ := h2
    rw [List.map_cons] at e
    injection e with e1 e2
    subst e2
    subst h3
    have h1a : k = keyD kk := h1a
    subst h1a
    have e1 : b = b' := e1
    subst e1
    show (dputs l (dput (acc.map fun kv => keyD kv.1) ws (keyD kk) v)).1 = (mergeK (putK acc kk b) kvs).map _ ∧ VRs M ags Ex H (dputs l (dput (acc.map fun kv => keyD kv.1) ws (keyD kk) v)).2 ((mergeK (putK acc kk b) kvs).map (·.2))
    have step : (dput (acc.map fun kv => keyD kv.1) ws (keyD kk) v).1 = (putK acc kk b).map (fun kv => keyD kv.1) ∧ VRs M ags Ex H (dput (acc.map fun kv => keyD kv.1) ws (keyD kk) v).2 ((putK acc kk b).map (·.2)) := by
      by_cases hn : acc = []
      · subst hn
        cases ws with
        | nil => exact ⟨rfl, VRs.one rb⟩
        | cons _ _ => obtain ⟨_, _, e, _⟩ := h4; cases e
      · exact putKD (f := keyD) keyEqK kk rb hn h4
    exact dputs_ok (ks := _) (ws := _) h1b h2b step.1 step.2
theorem e_dsp {pos : Pos} {es : Xps} {keys : List (Option Expr)} {vals : List Expr} {m : Mo} (hp : PPx X G M Wx pos es keys vals) (hall : keys.all (·.isSome) = true) (hl : keys.length = vals.length) (h0 : keys ≠ []) (h15 : keys.length ≤ 15) (hle : ∀ {σ S ds S'}, evEs G es σ S = .ok ds S' → ds.length = 2 * keys.length) :
    PE X (.Dict keys vals pos) (tE G M Wx m (.dsp es)) := by
  obtain ⟨trs, h1, h2⟩ := hp.ex
  refine PE.imp (pe_disp h1 hall hl h0 h15) fun σV H Q h => ?_
  obtain ⟨O, ags, W, σ, S, sit, h⟩ := h
  simp only [evE] at h
  intro p hp
  have r' := sit.sto.withD hp (.inr (.inl ⟨[], upd_same⟩))
  have l : Le ags (exs O ags W) H ags (exs (OD O p) ags W) (upd H p (.dK [])) := by
    refine ⟨List.prefix_refl _, fun a ha z => ?_, fun a u _ e => by rw [upd_ne (ne_of_none e hp)]; exact e⟩
    rcases z with (z | z) | z
    · exact .inl z
    · exact absurd (z ▸ hp) ha
    · exact .inr z
  have sit' : Sit M (OD O p) ags W σ S σV (upd H p (.dK [])) := sit.extL l (fun i a hw => upd_ne fun z => (sit.sto.wn i a hw).2.2 (z ▸ hp)) r'
  refine h2 σV _ _ ⟨OD O p, ags, W, σ, S, sit', ?_⟩
  cases hx : evEs G es σ S with
  | stuck => rw [hx] at h; exact h
  | exc e S1 =>
    rw [hx] at h
    intro ags1 H1 cls dx e1 r1 x1
    have e0 : Ext ags H ags1 H1 := by
      refine ⟨e1.pre, fun a o n q => e1.same a o n (by rw [upd_ne (ne_of_none q hp)]; exact q), fun a ha => ?_⟩
      rcases e1.new a ha with z | z
      · exact .inl z
      · by_cases c : a = p
        · subst c; exact .inr hp
        · rw [upd_ne c] at z; exact .inr z
    refine h ags1 H1 cls dx e0 r1.dropD ?_
    cases e with
    | exc c fs =>
      obtain ⟨C, ns, vs, a, q1, q2, q3, q4, q5, q6, q7⟩ := x1
      refine ⟨C, ns, vs, a, q1, q2, q3, fun z => q4 ?_, q5, q6, VRs.le ⟨List.prefix_refl _, fun b _ z => ?_, fun b u _ z => z⟩ _ _ q7⟩
      · rcases z with z | z
        · exact .inl (.inl z)
        · exact .inr z
      · rcases z with z | z
        · exact .inl (.inl z)
        · exact .inr z
    | _ => exact x1.elim
  | ok ds S1 =>
    rw [hx] at h
    have hlen := hle hx
    intro ags1 H1 e1 r1 ps rps
    have h : Pst M O W Wx σV ags H (R.lif (dspD ds) S1) fun d S' ags' H' => ∀ v, RelM m M O H ags' W H' d v → Q v H' := h
    unfold dspD at h
    cases hd : dpr ds with
    | none => rw [hd] at h; exact h.elim
    | some l =>
      rw [hd] at h
      obtain ⟨kvs, rfl, k1, k2, k3⟩ := prs_keys rps hd
      have hpa : p ∉ ags1 := fun z => r1.ap p z (.inr rfl)
      have hH1 : H1 p = some (.dK []) := e1.same p _ (fun z => hpa (e1.pre.subset z)) upd_same
      obtain ⟨d1, d2⟩ := dputs_ok (ks := []) (ws := []) (acc := []) k1 k2 rfl rfl
      have hkl : kvs.length ≤ 15 := by
        have a1 : ∀ {xs : List D} {l : List (D × D)}, dpr xs = some l → xs.length = 2 * l.length := by
          have gen : ∀ (n : Nat) (xs : List D) (l : List (D × D)), xs.length ≤ n → dpr xs = some l → xs.length = 2 * l.length := by
            intro n
            induction n with
            | zero => intro xs l hn e; cases xs with
              | nil => cases e; rfl
              | cons _ _ => simp at hn
            | succ n ih =>
              intro xs l hn e
              match xs, hn, e with
              | [], _, e => cases e; rfl
              | [_], _, e => cases e
              | k :: v :: r, hn, e =>
                unfold dpr at e
                split at e
                · obtain ⟨l', e1, rfl⟩ := Option.map_eq_some_iff.mp e
                  have := ih r l' (by simp at hn; omega) e1
                  simp; omega
                · cases e
          exact fun {xs l} e => gen xs.length xs l (Nat.le_refl _) e
        have a2 := a1 hd
        have a3 : l.length = kvs.length := by
          have := congrArg List.length k1
          simpa using this
        omega
      refine ⟨hH1, kvs, rfl, hkl, ?_⟩
      have r2 := (r1.putD (o := .dK (mergeK [] kvs)) (.inr rfl) (.inr (.inl ⟨_, upd_same⟩))).dropD
      have e0 : Ext ags H ags1 (upd H1 p (.dK (mergeK [] kvs))) := by
        refine ⟨e1.pre, fun a o n q => ?_, fun a ha => ?_⟩
        · have hap : a ≠ p := ne_of_none q hp
          rw [upd_ne hap]
          exact e1.same a o n (by rw [upd_ne hap]; exact q)
        · rcases e1.new a ha with z | z
          · exact .inl z
          · by_cases c : a = p
            · subst c; exact .inr hp
            · rw [upd_ne c] at z; exact .inr z
      have l1 : Le ags1 (exs (OD O p) ags1 W) H1 ags1 (fun a => exs O ags1 W a ∨ a = p) (upd H1 p (.dK (mergeK [] kvs))) := by
        refine ⟨List.prefix_refl _, fun a _ z => ?_, fun a o n q => by rw [upd_ne fun z => n (.inl (.inr z))]; exact q⟩
        rcases z with (z | z) | z
        · exact .inl (.inl z)
        · exact .inr z
        · exact .inl (.inr z)
      refine h ags1 _ e0 r2 _ (RelM.ofF (.inr ⟨p, rfl, hp, ?_, _, VRs.le l1 _ _ d2, .inl ⟨_, upd_same⟩, .inl ⟨_, .inl upd_same, d1, rfl, ?_⟩⟩))
      · rintro (z | z | ⟨i, z⟩)
        · exact sit.sto.on p z hp
        · exact hpa z
        · exact (r1.wn i p z).1 (.inr rfl)
      · have gen : ∀ (more acc : List (L2.Key × V)), (∀ kv ∈ acc, KeyG kv.1) → (∀ kv ∈ more, KeyG kv.1) → ∀ kv ∈ mergeK acc more, KeyG kv.1 := by
          intro more
          induction more with
          | nil => intro acc h1 _; exact h1
          | cons q r ih => intro acc h1 h2; exact ih (putK acc q.1 q.2) (putK_good h1 (h2 q (List.mem_cons_self ..))) fun kv hkv => h2 kv (List.mem_cons_of_mem _ hkv)
        exact gen kvs [] (fun _ h => nomatch h) k3
/-! ### {(..): v} -/
def tDispT (tk tv : TE) : TE := fun σ H Q => ∀ p, H p = none → tPairs [(tk, tv)] σ (upd H p (.dT [])) fun ps H2 => ∃ x y, ps = [(x, y)] ∧ H2 p = some (.dT []) ∧ ∃ (ks : List L2.Key) (b : Addr), x = .ref b ∧ H2 b = some (.tup (ks.map kV)) ∧ Q (.ref p) (upd H2 p (.dT [(ks, y)]))
theorem pe_dispT {k v : Expr} {tk tv : TE} {pos : Pos} (hu : X.A.units + 1 < cLine) (hk : PE X k tk) (hv : PE X v tv) : PE X (.Dict [some k] [v] pos) (tDispT tk tv) := by
  refine ⟨fun pins s σ H Q I q => ?_⟩
  have hn := I.hok.fresh (Nat.le_refl s.heap.objs.size)
  have I1 := I.laid (a := s.heap.objs.size) (o := .dT []) (h' := s.heap.push { cls := .type "dict", data := .dict #[] }) (t' := s.toks) (fun _ _ q => Heap.get?_push_of_some _ q) (Nat.le_refl _) (dt_empty s.heap I.big)
  have hsh := zip_pairTrees [some k] [v] X.env pos rfl rfl
  have hln := pairTrees_length [some k] [v] X.env pos rfl rfl
  rw [arm_eval_Dict, hsh, dictDisplay_pairs (pairTrees [some k] [v] X.env pos) (by intro z; rw [z] at hln; cases hln) (by rw [hln]; show 1 < 17; decide)]
  refine wpAny_bind (wpAny_standAt (wpAny_bind (wpAny_subDictH (knd := tupleKind (mixKind X.prog X.w)) (by show X.A.units < cLine; omega) (by rw [hln]; show 1 ≤ 15; decide) ?_)))
  have run := (pps_cons (pos := pos) hk hv pps_nil).run pins _ σ _ _ I1 (q _ hn)
  refine thn run fun ws s2 ⟨ps, H2, I2, rel, x, y, e0, e, ks, b, ex, hb, q2⟩ => ?_
  subst e0; subst ex
  cases rel with
  | @cons p0 w0 as bs h0 t0 =>
    cases t0
    obtain ⟨w1, w2⟩ := w0
    obtain ⟨rx, ry⟩ := h0
    have rx : RelV (.ref b) w1 := rx
    have ry : RelV y w2 := ry
    cases rx
    obtain ⟨z, hd, xs, rel, dd⟩ := dt_of I2.hok e
    cases rel
    refine ⟨[(ks, b, w2)], ⟨rfl, rfl, key_of I2.hok hb, trivial⟩, dd, fun h' tk' dd' hs => wpAny_pure ⟨.ref s.heap.objs.size, _, ?_, rfl, q2⟩⟩
    obtain ⟨o, es, ep, hq, h2, h3, h4, _, h5⟩ := dd'
    refine d_write I2 (by rw [e]; exact True.intro) hs ⟨o, hq⟩ ⟨by rw [sizeLine_eq]; show 1 ≤ _; omega, hd, [(ks, b, w2)], .cons ⟨rfl, ?_, ry⟩ .nil, o, es, ep, hq, h2, h3, h4, h5⟩
    rw [upd_ne (ne_of hb e (fun z => nomatch z))]
    exact hb
theorem e_dspT {k v : Expr} {ck cv : Xp} {pos : Pos} {m : Mo} (hu : X.A.units + 1 < cLine) (hk : PE X k (tE G M Wx .cap ck)) (hv : PE X v (tE G M Wx .cap cv)) : PE X (.Dict [some k] [v] pos) (tE G M Wx m (.dspT ck cv)) := by
  refine PE.imp (pe_dispT hu hk hv) fun σV H Q h => ?_
  obtain ⟨O, ags, W, σ, S, sit, h⟩ := h
  simp only [evE] at h
  intro p hp
  have r' := sit.sto.withD hp (.inr (.inr ⟨[], upd_same⟩))
  have l : Le ags (exs O ags W) H ags (exs (OD O p) ags W) (upd H p (.dT [])) := by
    refine ⟨List.prefix_refl _, fun a ha z => ?_, fun a u _ e => by rw [upd_ne (ne_of_none e hp)]; exact e⟩
    rcases z with (z | z) | z
    · exact .inl z
    · exact absurd (z ▸ hp) ha
    · exact .inr z
  have sit' : Sit M (OD O p) ags W σ S σV (upd H p (.dT [])) := sit.extL l (fun i a hw => upd_ne fun z => (sit.sto.wn i a hw).2.2 (z ▸ hp)) r'
  have xr : ∀ {ags1 : List Addr} {H1 : Hp} {S1 : List D} {e : D} {cls : Value} {dx : Option Addr}, XR M ags1 (exs (OD O p) ags1 W) H1 e cls dx → XR M ags1 (exs O ags1 W) H1 e cls dx := by
    intro ags1 H1 S1 e cls dx x1
    cases e with
    | exc c fs =>
      obtain ⟨C, ns, vs, a, q1, q2, q3, q4, q5, q6, q7⟩ := x1
      refine ⟨C, ns, vs, a, q1, q2, q3, fun z => q4 ?_, q5, q6, VRs.le ⟨List.prefix_refl _, fun b _ z => ?_, fun b u _ z => z⟩ _ _ q7⟩
      · rcases z with z | z
        · exact .inl (.inl z)
        · exact .inr z
      · rcases z with z | z
        · exact .inl (.inl z)
        · exact .inr z
    | _ => exact x1.elim
  have ex : ∀ {ags1 : List Addr} {H1 : Hp}, Ext ags (upd H p (.dT [])) ags1 H1 → Ext ags H ags1 H1 := by
    intro ags1 H1 e1
    refine ⟨e1.pre, fun a o n q => e1.same a o n (by rw [upd_ne (ne_of_none q hp)]; exact q), fun a ha => ?_⟩
    rcases e1.new a ha with z | z
    · exact .inl z
    · by_cases c : a = p
      · subst c; exact .inr hp
      · rw [upd_ne c] at z; exact .inr z
  refine ⟨OD O p, ags, W, σ, S, sit', ?_⟩
  cases hx : evE G ck σ S with
  | stuck => rw [hx] at h; exact h
  | exc e S1 =>
    rw [hx] at h
    exact fun ags1 H1 cls dx e1 r1 x1 => h ags1 H1 cls dx (ex e1) r1.dropD (xr (S1 := S1) x1)
  | ok x S1 =>
    rw [hx] at h
    intro ags1 H1 e1 r1 a ra
    have sit1 := sit'.ext e1 r1
    refine ⟨OD O p, ags1, W, σ, S1, sit1, ?_⟩
    have h : Pst M O W Wx σV ags H ((evE G cv σ S1).bnd fun y S2 => if isT x = true ∧ keyOk x = true then R.ok (.dct [x] [y]) S2 else .stuck) (fun d S' ags' H' => ∀ v, RelM m M O H ags' W H' d v → Q v H') := h
    cases hy : evE G cv σ S1 with
    | stuck => rw [hy] at h; exact h
    | exc e S2 =>
      rw [hy] at h
      exact fun ags2 H2 cls dx e2 r2 x2 => h ags2 H2 cls dx (ex (e1.trans e2 r1)) r2.dropD (xr (S1 := S2) x2)
    | ok y S2 =>
      rw [hy] at h
      intro ags2 H2 e2 r2 b rb
      have h : Pst M O W Wx σV ags H (if isT x = true ∧ keyOk x = true then R.ok (.dct [x] [y]) S2 else .stuck) (fun d S' ags' H' => ∀ v, RelM m M O H ags' W H' d v → Q v H') := h
      split at h
      · rename_i hk
        have e12 := e1.trans e2 r1
        have hpa : p ∉ ags2 := fun z => r2.ap p z (.inr rfl)
        have hH2 : H2 p = some (.dT []) := e12.same p _ (fun z => hpa (e12.pre.subset z)) upd_same
        have ra2 : VR M ags2 (exs (OD O p) ags2 W) H2 x a := VR.le e2.le _ _ ra
        have rb2 : VR M ags2 (exs (OD O p) ags2 W) H2 y b := rb
        cases x with
        | tup xs =>
          obtain ⟨t, vs, rfl, nt, ht, hv⟩ := ra2
          obtain ⟨ks, rfl, rfl, g⟩ := key_flats hk.2 hv
          refine ⟨_, _, rfl, hH2, ks, t, rfl, ht, ?_⟩
          have r3 := (r2.putD (o := .dT [(ks, b)]) (.inr rfl) (.inr (.inr ⟨_, upd_same⟩))).dropD
          have e0 : Ext ags H ags2 (upd H2 p (.dT [(ks, b)])) := by
            refine ⟨e12.pre, fun a o n q => ?_, (ex e12).new⟩
            have hap : a ≠ p := ne_of_none q hp
            rw [upd_ne hap]
            exact (ex e12).same a o n q
          have l1 : Le ags2 (exs (OD O p) ags2 W) H2 ags2 (fun a => exs O ags2 W a ∨ a = p) (upd H2 p (.dT [(ks, b)])) := by
            refine ⟨List.prefix_refl _, fun a _ z => ?_, fun a o n q => by rw [upd_ne fun z => n (.inl (.inr z))]; exact q⟩
            rcases z with (z | z) | z
            · exact .inl (.inl z)
            · exact .inr z
            · exact .inl (.inr z)
          refine h ags2 _ e0 r3 _ (RelM.ofF (.inr ⟨p, rfl, hp, ?_, [b], VRs.one (VR.le l1 _ _ rb2), .inr ⟨_, upd_same⟩, .inr ⟨_, .inl upd_same, rfl, rfl, ?_⟩⟩))
          · rintro (z | z | ⟨i, z⟩)
            · exact sit.sto.on p z hp
            · exact hpa z
            · exact (r2.wn i p z).1 (.inr rfl)
          · intro q hq k hk
            cases List.mem_singleton.mp hq
            exact g k hk
        | _ => cases hk.1
      · exact h.elim
end
end PV

/-! ## PV: a dict that is locked while it is walked -/
namespace PV
open PySem PySem.Spec PyProof.Rows L2
def DU : HO → Prop
  | .dK _ | .dT _ => True
  | _ => False
section
variable {M : Nm} {O : Adr} {ags ags' : List Addr} {Ex : Adr} {W : Nat → Option Addr} {H H' : Hp} {S : List D} {σ : Sg} {σV : L2.St} {a : Addr} {u : HO}
theorem Rd.one {u' : HO} (d : DU u) (d' : DU u') (h : Rd H a u) (h' : Rd H a u') : u = u' := by
  rcases h with h | ⟨o, h⟩ <;> rcases h' with h' | ⟨o', h'⟩ <;> rw [h] at h' <;> injection h' with e
  · subst e; exact False.elim d
  · subst e; exact False.elim d'
  · injection e
theorem Rd.off (d : DU u) (r : Rd H a u) {b : Addr} {o : HO} (h : H b = some o) (ho : ¬ DU o) (hf : ∀ o' u', o ≠ .frz o' u') : b ≠ a := by
  rintro rfl
  rcases r with r | ⟨o', r⟩ <;> rw [r] at h <;> injection h with e
  · subst e; exact ho d
  · exact hf _ _ e.symm
theorem Rd.offF (d : DU u) (r : Rd H a u) {b : Addr} {o' : Obj} {xs : List V} (h : H b = some (.frz o' (.lst xs))) : b ≠ a := by
  rintro rfl
  rcases r with r | ⟨o2, r⟩ <;> rw [r] at h <;> injection h with e
  · subst e; exact d
  · injection e with e1 e2
    subst e2
    exact d
theorem DR.sw (hne : ∀ b, b ≠ a → H' b = H b) (d : DU u) (r : Rd H a u) (r' : Rd H' a u) {b : Addr} {ks : List D} {vs : List V} (h : DR H b ks vs) : DR H' b ks vs := by
  have rd : ∀ u', DU u' → Rd H b u' → Rd H' b u' := fun u' d' q => by
    by_cases e : b = a
    · subst e
      rw [Rd.one d' d q r]
      exact r'
    · rcases q with q | ⟨o, q⟩
      · exact .inl ((hne b e).trans q)
      · exact .inr ⟨o, (hne b e).trans q⟩
  rcases h with ⟨kvs, h, e⟩ | ⟨kvs, h, e⟩
  · exact .inl ⟨kvs, rd _ True.intro h, e⟩
  · exact .inr ⟨kvs, rd _ True.intro h, e⟩
mutual
theorem VR.sw (hne : ∀ b, b ≠ a → H' b = H b) (d : DU u) (r : Rd H a u) (r' : Rd H' a u) : ∀ (x : D) (v : V), VR M ags Ex H x v → VR M ags Ex H' x v
  | .non, _, h => h
  | .bl _, _, h => h
  | .int _, _, h => h
  | .str _, _, h => h
  | .lst ds, v, h => by
    obtain ⟨b, vs, e, n, q, k⟩ := h
    exact ⟨b, vs, e, n, (hne b (Rd.off d r q (fun z => z) (fun _ _ z => nomatch z))).trans q, VRs.sw hne d r r' ds vs k⟩
  | .tup ds, v, h => by
    obtain ⟨b, vs, e, n, q, k⟩ := h
    exact ⟨b, vs, e, n, (hne b (Rd.off d r q (fun z => z) (fun _ _ z => nomatch z))).trans q, VRs.sw hne d r r' ds vs k⟩
  | .dct ks ws, v, h => by
    obtain ⟨b, vs, e, n, q, k⟩ := h
    exact ⟨b, vs, e, n, VRs.sw hne d r r' ws vs q, DR.sw hne d r r' k⟩
  | .exc c fs, v, h => by
    obtain ⟨C, ns, us, b, dx, h1, h2, h3, h4, h5, h6, h7, h8⟩ := h
    exact ⟨C, ns, us, b, dx, h1, h2, h3, (hne b (Rd.off d r h4 (fun z => z) (fun _ _ z => nomatch z))).trans h4, h5, (hne dx (Rd.off d r h6 (fun z => z) (fun _ _ z => nomatch z))).trans h6, h7, VRs.sw hne d r r' fs us h8⟩
  | .fn _, _, h => h
  | .ref n, v, h => h
  | .scr ns, v, h => by
    rcases h with ⟨b, e, n, ne, q⟩ | h
    · have ne' : H' b ≠ none := by
        by_cases z : b = a
        · rw [z]; exact Rd.ne r'
        · rw [hne b z]; exact ne
      refine .inl ⟨b, e, n, ne', ?_⟩
      rcases q with (q | ⟨o', q⟩) | q
      · exact .inl (.inl ((hne b (Rd.off d r q (fun z => z) (fun _ _ z => nomatch z))).trans q))
      · exact .inl (.inr ⟨o', (hne b (Rd.offF d r q)).trans q⟩)
      · exact .inr q
    · exact .inr h
theorem VRs.sw (hne : ∀ b, b ≠ a → H' b = H b) (d : DU u) (r : Rd H a u) (r' : Rd H' a u) : ∀ (xs : List D) (vs : List V), VRs M ags Ex H xs vs → VRs M ags Ex H' xs vs
  | [], _, h => h
  | x :: xs, vs, h => by
    obtain ⟨v, t, e, h1, h2⟩ := h
    exact ⟨v, t, e, VR.sw hne d r r' x v h1, VRs.sw hne d r r' xs t h2⟩
end
theorem OwnR.sw (hne : ∀ b, b ≠ a → H' b = H b) (d : DU u) (r : Rd H a u) (r' : Rd H' a u) {x : D} {b : Addr} (hb : b ≠ a) (h : OwnR M ags Ex H x b) : OwnR M ags Ex H' x b := by
  cases x with
  | lst ds =>
    obtain ⟨vs, q, k⟩ := h
    exact ⟨vs, (hne b hb).trans q, VRs.sw hne d r r' _ _ k⟩
  | dct ks ws =>
    obtain ⟨vs, k, q, z⟩ := h
    exact ⟨vs, VRs.sw hne d r r' _ _ k, by rw [hne b hb]; exact q, DR.sw hne d r r' z⟩
  | _ => exact h
/-- the shared objects while the dict at a is locked or no more; the own places may be told otherwise -/
theorem SR.sw {W' : Nat → Option Addr} (s : SR M O ags W H S) (hne : ∀ b, b ≠ a → H' b = H b) (d : DU u) (r : Rd H a u) (hO : ¬ O a) (hA : a ∉ ags) (hW : ∀ i b, W' i = some b → ¬ O b ∧ b ∉ ags ∧ Ob H' b) : SR M O ags W' H' S := by
  have nA : ∀ b ∈ ags, b ≠ a := fun b hb z => hA (z ▸ hb)
  have nO : ∀ b, O b → b ≠ a := fun b hb z => hO (z ▸ hb)
  have tl : Tl ags H ags (exs O ags W') H' := ⟨List.prefix_refl _, fun b vs h => by
    have hb := Rd.off d r h (fun z => z) (fun _ _ z => nomatch z)
    refine ⟨(hne b hb).trans h, fun z => ?_⟩
    rcases z with z | z | ⟨i, z⟩
    · exact (s.oo b z).tup h
    · exact (s.aob z).tup h
    · exact (hW i b z).2.2.tup ((hne b hb).trans h)⟩
  refine ⟨s.len, s.nd, fun n x b h1 h2 => ?_, s.ap, fun i b hw => ⟨(hW i b hw).1, (hW i b hw).2.1, (hW i b hw).2.2.ne⟩, fun b hb => ?_, fun i b hw => (hW i b hw).2.2, fun b hb => (s.oo b hb).eq (hne b (nO b hb)), s.fl⟩
  · exact OwnR.imm tl (s.fl x (List.mem_of_getElem? h1)) (hne b (nA b (List.mem_of_getElem? h2))) (s.at_ n x b h1 h2)
  · rw [hne b (nO b hb)]; exact s.on b hb
theorem itd_keys {o : Obj} {kvs : List (Key × V)} (ha : H a = some (.frz o (.dK kvs))) (n : ¬ Ex a) (g : ∀ p ∈ kvs, KeyG p.1) : ItD M ags Ex H (Itk a o kvs) (kvs.map fun p => keyD p.1) := by
  intro ags' Ex' H' l dom i
  have ha' := l.same a _ n ha
  refine ⟨fun hi => ⟨ha', by rwa [List.length_map] at hi⟩, fun x hx => ?_⟩
  rw [List.getElem?_map] at hx
  obtain ⟨p, hp, rfl⟩ := Option.map_eq_some_iff.mp hx
  refine ⟨⟨ha', (List.getElem?_eq_some_iff.mp hp).1⟩, fun v H'' y => ?_⟩
  obtain ⟨rfl, k, v', e, rfl⟩ := y
  rw [hp] at e
  cases e
  refine ⟨?_, .inl rfl⟩
  have gk := g _ (List.mem_of_getElem? hp)
  cases k with
  | inl i => exact rfl
  | inr x => exact ⟨by show V.str x = V.str ⟨x.cps.toList.toArray⟩; simp, gk⟩
theorem tks_no {kvs : List (List Key × V)} : (tks kvs).all isK = false := by
  unfold tks
  cases kvs with
  | nil => rfl
  | cons p r => rfl
theorem Sit.sw (s : Sit M O ags W σ S σV H) (hne : ∀ b, b ≠ a → H' b = H b) (d : DU u) (r : Rd H a u) (r' : Rd H' a u) (na : ¬ exs O ags W a) : Sit M O ags W σ S σV H' := by
  refine ⟨s.len, fun i x h => ?_, fun i x h => ?_, s.inj, s.sto.sw hne d r (fun z => na (.inl z)) (fun z => na (.inr (.inl z))) fun i b hw => ?_⟩
  · obtain ⟨v, e, q⟩ := s.val i x h
    exact ⟨v, e, VR.sw hne d r r' x v q⟩
  · obtain ⟨b, hw, e, q⟩ := s.own i x h
    exact ⟨b, hw, e, OwnR.sw hne d r r' (fun z => na (.inr (.inr ⟨i, z ▸ hw⟩))) q⟩
  · have hb : b ≠ a := fun z => na (.inr (.inr ⟨i, z ▸ hw⟩))
    obtain ⟨h1, h2, _⟩ := s.sto.wn i b hw
    exact ⟨h1, h2, (s.sto.wo i b hw).eq (hne b hb)⟩
/-- the dict is no more locked -/
theorem Ext.unl {od : Obj} (e : Ext ags (L2.upd H a (.frz od u)) ags' H') (hr : H a = some u) : Ext ags H ags' (L2.upd H' a u) := by
  refine ⟨e.pre, fun b o n h => ?_, fun b hb => ?_⟩
  · by_cases z : b = a
    · subst z
      rw [hr] at h
      cases h
      exact upd_same
    · rw [upd_ne z]
      exact e.same b o n (by rw [upd_ne z]; exact h)
  · rcases e.new b hb with z | z
    · exact .inl z
    · refine .inr ?_
      by_cases w : b = a
      · subst w; rw [upd_same] at z; cases z
      · rwa [upd_ne w] at z
end
section
variable {X : Cx} {M : Nm} {G : PV.Env} {Wx : WX} {z : Sx}
theorem lcD_imp {ce : Xp} {own : List Nat} {t : Tg} {i : Nat} {cc : Xpo} {m : Mo} (hsub : (tgS t).all own.contains = true) {σV : L2.St} {H : Hp} {Q : VK} {O : Adr} {ags : List Addr} {W : Nat → Option Addr} {σ : Sg} {S : List D} (sit : Sit M O ags W σ S σV H)
    (h : Pst M O W Wx σV ags H (dcRun G ce own t i cc σ S) fun d S' ags' H' => ∀ v, RelM m M O H ags' W H' d v → Q v H') :
    tLockE (tLc (iKeys (tVar i)) (tG M t) (tC G M cc) (tE G M WF .cap ce) own) σV H Q ∨ tLc (iKeys (tVar i)) (tG M t) (tC G M cc) (tE G M WF .cap ce) own σV H Q := by
  have hsub' : ∀ j ∈ tgS t, j ∈ own := fun j hj => List.contains_iff_mem.mp (List.all_eq_true.mp hsub j hj)
  unfold dcRun at h
  cases hs : σ[i]? with
  | none => rw [hs] at h; exact h.elim
  | some sl =>
    rw [hs] at h
    cases sl with
    | un => exact h.elim
    | val d =>
      cases d <;> first | exact h.elim | skip
      rename_i ks ws
      by_cases hk : ks.all isK = true ∧ ks.length ≤ SZ
      · simp only [if_pos hk] at h
        obtain ⟨v, hv, a, vs, rfl, na, hw, dr⟩ := sit.val i _ hs
        rcases dr with ⟨kvs, hr, rfl, rfl, gk⟩ | ⟨kvs, hr, rfl, _⟩
        · have hlen : (kvs.map fun p => keyD p.1).length ≤ sizeLine := by rw [sizeLine_eq]; exact hk.2
          rcases hr with hr | ⟨o, hr⟩
          · refine .inl ⟨a, .dK kvs, hr, True.intro, fun od => ?_⟩
            have hne : ∀ b, b ≠ a → (L2.upd H a (.frz od (.dK kvs))) b = H b := fun b hb => upd_ne hb
            have du : DU (.dK kvs) := True.intro
            have sit1 := sit.sw hne du (.inl hr) (.inr ⟨od, upd_same⟩) na
            have nA : a ∉ ags := fun z => na (.inr (.inl z))
            have frzd : ∀ {ags' H'}, Ext ags (L2.upd H a (.frz od (.dK kvs))) ags' H' → H' a = some (.frz od (.dK kvs)) := fun e => e.same a _ nA upd_same
            have nA' : ∀ {ags' H'}, Ext ags (L2.upd H a (.frz od (.dK kvs))) ags' H' → a ∉ ags' := fun e z => by
              rcases e.new a z with z | z
              · exact nA z
              · rw [upd_same] at z; cases z
            have sr : ∀ {ags' H' S'}, Ext ags (L2.upd H a (.frz od (.dK kvs))) ags' H' → SR M O ags' W H' S' → SR M O ags' W (L2.upd H' a (.dK kvs)) S' := fun e r =>
              r.sw (fun b hb => upd_ne hb) du (.inr ⟨od, frzd e⟩) (fun z => na (.inl z)) (nA' e) fun j b hw => by
                have hb : b ≠ a := fun z => na (.inr (.inr ⟨j, z ▸ hw⟩))
                exact ⟨(r.wn j b hw).1, (r.wn j b hw).2.1, (r.wo j b hw).eq (upd_ne hb)⟩
            have h1 : Pst M O W Wx σV ags (L2.upd H a (.frz od (.dK kvs))) ((lcGo (lcF G ce own t cc σ) (kvs.map fun p => keyD p.1) S).bnd fun ys S2 => .ok (.lst ys) S2) (fun d S' ags' H' => ∀ v, RelM m M O H ags' W (L2.upd H' a (.dK kvs)) d v → Q v (L2.upd H' a (.dK kvs))) := by
              cases hgo : lcGo (lcF G ce own t cc σ) (kvs.map fun p => keyD p.1) S with
              | exc ex S' => exact absurd hgo (lcGo_noexc lcF_noexc _ _ _ _)
              | stuck => rw [hgo] at h; exact h.elim
              | ok zs Sn =>
                rw [hgo] at h
                exact fun ags' H' e r => h ags' _ (Ext.unl e hr) (sr e r)
            refine ⟨.ref a, hv, a, od, rfl, .inl ⟨kvs, upd_same, fun D hD => ?_⟩⟩
            refine lc_run (Qd := fun H' => H' a = some (.frz od (.dK kvs)) ∧ Q (.ref D) (L2.upd H' a (.dK kvs))) sit1 hsub' h1 hlen (itd_keys upd_same na gk) hD fun zs Sn ags' H' e r rf k => ⟨frzd e, k _ (RelM.ofF ?_)⟩
            rcases rf with ⟨hno, _⟩ | ⟨p, ep, hp, np, q⟩
            · cases hno
            · have hpa : p ≠ a := fun z => by subst z; rw [upd_same] at hp; cases hp
              exact .inr ⟨p, ep, by rwa [upd_ne hpa] at hp, np, OwnR.sw (fun b hb => upd_ne hb) du (.inr ⟨od, frzd e⟩) (.inl upd_same) hpa q⟩
          · refine .inr ⟨.ref a, hv, a, o, rfl, .inl ⟨kvs, hr, fun D hD => ?_⟩⟩
            exact lc_run sit hsub' h hlen (itd_keys hr na gk) hD fun zs Sn ags' H' _ _ rf k => k _ (RelM.ofF rf)
        · rw [tks_no] at hk
          cases hk.1
      · simp only [if_neg hk] at h
        exact h.elim
    | own d =>
      cases d <;> first | exact h.elim | skip
      rename_i ks ws
      by_cases hk : ks.all isK = true ∧ ks.length ≤ SZ
      · simp only [if_pos hk] at h
        obtain ⟨a, hw, hv, vs, hvs, hcell, dr⟩ := sit.own i _ hs
        rcases dr with ⟨kvs, hr0, rfl, rfl, gk⟩ | ⟨kvs, hr, rfl, _⟩
        · have hlen : (kvs.map fun p => keyD p.1).length ≤ sizeLine := by rw [sizeLine_eq]; exact hk.2
          have hr : H a = some (.dK kvs) := by
            rcases hcell with ⟨k2, hc⟩ | ⟨k2, hc⟩
            · have := Rd.one (u := .dK k2) (u' := .dK kvs) True.intro True.intro (.inl hc) hr0
              rw [hc, this]
            · have := Rd.one (u := .dT k2) (u' := .dK kvs) True.intro True.intro (.inl hc) hr0
              cases this
          refine .inl ⟨a, .dK kvs, hr, True.intro, fun od => ?_⟩
          have du : DU (.dK kvs) := True.intro
          let W' : Nat → Option Addr := fun j => if j = i then none else W j
          have hWi : W' i = none := if_pos rfl
          have hWj : ∀ j, j ≠ i → W' j = W j := fun j hj => if_neg hj
          have hWs : ∀ j b, W' j = some b → j ≠ i ∧ W j = some b := fun j b z => by
            by_cases hj : j = i
            · subst hj; rw [hWi] at z; cases z
            · rw [hWj j hj] at z; exact ⟨hj, z⟩
          obtain ⟨wO, nA, wN⟩ := sit.sto.wn i a hw
          have sub : ∀ b, exs O ags W' b → exs O ags W b := fun b z => by
            rcases z with z | z | ⟨j, z⟩
            · exact .inl z
            · exact .inr (.inl z)
            · exact .inr (.inr ⟨j, (hWs j b z).2⟩)
          have le0 : Le ags (exs O ags W) H ags (exs O ags W') H := ⟨List.prefix_refl _, fun b _ z => sub b z, fun b o _ h => h⟩
          have offa : ∀ j b, W' j = some b → b ≠ a := fun j b z e => (hWs j b z).1 (sit.inj j i a (e ▸ (hWs j b z).2) hw)
          have na : ¬ exs O ags W' a := by
            rintro (z | z | ⟨j, z⟩)
            · exact wO z
            · exact nA z
            · exact offa j a z rfl
          have hne : ∀ b, b ≠ a → (L2.upd H a (.frz od (.dK kvs))) b = H b := fun b hb => upd_ne hb
          have r0 : Rd H a (.dK kvs) := .inl hr
          have r1 : Rd (L2.upd H a (.frz od (.dK kvs))) a (.dK kvs) := .inr ⟨od, upd_same⟩
          have dr0 : DR H a (kvs.map fun p => keyD p.1) (kvs.map (·.2)) := .inl ⟨kvs, hr0, rfl, rfl, gk⟩
          have hi : i < σ.length := (List.getElem?_eq_some_iff.mp hs).1
          have sit1 : Sit M O ags W' (σ.set i (.val (.dct (kvs.map fun p => keyD p.1) ws))) S σV (L2.upd H a (.frz od (.dK kvs))) := by
            refine ⟨by rw [List.length_set]; exact sit.len, fun j d hj => ?_, fun j d hj => ?_, fun j k b h1 h2 => sit.inj j k b (hWs j b h1).2 (hWs k b h2).2, sit.sto.sw hne du r0 wO nA fun j b hw' => ?_⟩
            · by_cases e : j = i
              · subst e
                rw [List.getElem?_set_self hi] at hj
                cases hj
                exact ⟨.ref a, hv, a, _, rfl, na, VRs.sw hne du r0 r1 _ _ (VRs.le le0 _ _ hvs), DR.sw hne du r0 r1 dr0⟩
              · rw [List.getElem?_set_ne (fun z => e z.symm)] at hj
                obtain ⟨v, e1, q⟩ := sit.val j d hj
                exact ⟨v, e1, VR.sw hne du r0 r1 d v (VR.le le0 d v q)⟩
            · by_cases e : j = i
              · subst e
                rw [List.getElem?_set_self hi] at hj
                cases hj
              · rw [List.getElem?_set_ne (fun z => e z.symm)] at hj
                obtain ⟨b, hb, e1, q⟩ := sit.own j d hj
                have hb' : W' j = some b := (hWj j e).trans hb
                exact ⟨b, hb', e1, OwnR.sw hne du r0 r1 (offa j b hb') (OwnR.le le0 rfl q)⟩
            · exact ⟨(sit.sto.wn j b (hWs j b hw').2).1, (sit.sto.wn j b (hWs j b hw').2).2.1, (sit.sto.wo j b (hWs j b hw').2).eq (hne b (offa j b hw'))⟩
          have frzd : ∀ {ags' H'}, Ext ags (L2.upd H a (.frz od (.dK kvs))) ags' H' → H' a = some (.frz od (.dK kvs)) := fun e => e.same a _ nA upd_same
          have nA' : ∀ {ags' H'}, Ext ags (L2.upd H a (.frz od (.dK kvs))) ags' H' → a ∉ ags' := fun e z => by
            rcases e.new a z with z | z
            · exact nA z
            · rw [upd_same] at z; cases z
          have sr : ∀ {ags' H' S'}, Ext ags (L2.upd H a (.frz od (.dK kvs))) ags' H' → SR M O ags' W' H' S' → SR M O ags' W (L2.upd H' a (.dK kvs)) S' := fun e r =>
            r.sw (fun b hb => upd_ne hb) du (.inr ⟨od, frzd e⟩) wO (nA' e) fun j b hw' => by
              by_cases hj : j = i
              · subst hj
                rw [hw] at hw'
                cases hw'
                exact ⟨wO, nA' e, .inr (.inl ⟨kvs, upd_same⟩)⟩
              · have hb' : W' j = some b := (hWj j hj).trans hw'
                exact ⟨(r.wn j b hb').1, (r.wn j b hb').2.1, (r.wo j b hb').eq (upd_ne (offa j b hb'))⟩
          have h1 : Pst M O W' Wx σV ags (L2.upd H a (.frz od (.dK kvs))) ((lcGo (lcF G ce own t cc (σ.set i (.val (.dct (kvs.map fun p => keyD p.1) ws)))) (kvs.map fun p => keyD p.1) S).bnd fun ys S2 => .ok (.lst ys) S2) (fun d S' ags' H' => (∀ zs, d = .lst zs → immDs zs = true) ∧ ∀ v, RelM m M O H ags' W (L2.upd H' a (.dK kvs)) d v → Q v (L2.upd H' a (.dK kvs))) := by
            cases hgo : lcGo (lcF G ce own t cc (σ.set i (.val (.dct (kvs.map fun p => keyD p.1) ws)))) (kvs.map fun p => keyD p.1) S with
            | exc ex S' => exact absurd hgo (lcGo_noexc lcF_noexc _ _ _ _)
            | stuck => rw [hgo] at h; exact h.elim
            | ok zs Sn =>
              rw [hgo] at h
              simp only [PV.R.bnd_ok] at h ⊢
              by_cases him : immDs zs = true
              · simp only [if_pos him] at h
                exact fun ags' H' e r => ⟨fun zs' ez => by cases ez; exact him, h ags' _ (Ext.unl e hr) (sr e r)⟩
              · simp only [if_neg him] at h
                exact h.elim
          refine ⟨.ref a, hv, a, od, rfl, .inl ⟨kvs, upd_same, fun D hD => ?_⟩⟩
          refine lc_run (Qd := fun H' => H' a = some (.frz od (.dK kvs)) ∧ Q (.ref D) (L2.upd H' a (.dK kvs))) sit1 hsub' h1 hlen (itd_keys upd_same na gk) hD fun zs Sn ags' H' e r rf k => ⟨frzd e, k.2 _ (RelM.ofF ?_)⟩
          have himm := k.1 zs rfl
          rcases rf with ⟨hno, _⟩ | ⟨p, ep, hp, np, vs', hp', hvs'⟩
          · cases hno
          · have hpa : p ≠ a := fun z => by subst z; rw [upd_same] at hp; cases hp
            have r2 := sr e r
            have tl2 : Tl ags' H' ags' (fun b => exs O ags' W b ∨ b = p) (L2.upd H' a (.dK kvs)) := ⟨List.prefix_refl _, fun b ws' hb => by
              have hba : b ≠ a := Rd.off du (.inr ⟨od, frzd e⟩) hb (fun z => z) (fun _ _ z => nomatch z)
              have hb2 : (L2.upd H' a (.dK kvs)) b = some (.tup ws') := (upd_ne hba).trans hb
              refine ⟨hb2, fun z => ?_⟩
              rcases z with z | z
              · exact (r2.eob z).tup hb2
              · subst z; rw [hp'] at hb; cases hb⟩
            refine .inr ⟨p, ep, by rwa [upd_ne hpa] at hp, fun z => ?_, vs', (upd_ne hpa).trans hp', VRs.imm tl2 _ _ himm hvs'⟩
            rcases z with z | z | ⟨j, z⟩
            · exact np (.inl z)
            · exact np (.inr (.inl z))
            · by_cases hj : j = i
              · subst hj
                rw [hw] at z
                cases z
                exact hpa rfl
              · exact np (.inr (.inr ⟨j, (hWj j hj).trans z⟩))
        · rw [tks_no] at hk
          cases hk.1
      · simp only [if_neg hk] at h
        exact h.elim
theorem nameO_eq {e : Expr} {y : Str} (h : nameO e = some y) : ∃ p, e = .Name y p := by
  unfold nameO at h
  split at h
  · cases h; exact ⟨_, rfl⟩
  · cases h
theorem PE.or2 {e : Expr} {t1 t2 : TE} (h1 : PE X e t1) (h2 : PE X e t2) : PE X e (fun σ H Q => t1 σ H Q ∨ t2 σ H Q) :=
  ⟨fun pins s σ H Q I h => h.elim (h1.run pins s σ H Q I) (h2.run pins s σ H Q I)⟩
theorem e_lcD {x tg : Expr} {y : Str} {ifs : List Expr} {scope : Scope} {pos p2 : Pos} {ce : Xp} {own : List Nat} {t : Tg} {i : Nat} {cc : Xpo} {m : Mo} (Z : Cz z X M G Wx) (hb : blkB z.N z.sc scope own = true) (hN : z.N[i]? = some y) (hv : visB z.sc y = true) (hn : nmOk y = true) (hsub : (tgS t).all own.contains = true)
    (hg : ∀ (s : Shared) (H : Hp) (C : Addr) (cl : List (Str × Addr)) (fp : List Addr), PG (X.blk s H scope (compEnvC scope cl C X.env) fp) tg (tG M t)) (ht : ∀ (s : Shared) (H : Hp) (C : Addr) (cl : List (Str × Addr)) (fp : List Addr), PTs (X.blk s H scope (compEnvC scope cl C X.env) fp) ifs (tC G M cc))
    (he : ∀ (s : Shared) (H : Hp) (C : Addr) (cl : List (Str × Addr)) (fp : List Addr), PE (X.blk s H scope (compEnvC scope cl C X.env) fp) x (tE G M WF .cap ce)) : PE X (.ListComp x [⟨tg, .Name y p2, ifs, 0⟩] scope pos) (tE G M Wx m (.lcD ce own t i cc)) := by
  rw [← Z.N, ← Z.env] at hb
  obtain ⟨ow, ho, ok⟩ := blk_ok hb
  have base := pe_lc (pos := pos) Z.calm Z.nd (pi_keys (tg := tg) (v_var (pos := p2) Z hN hv hn)) ok hg ht he (fold_of rfl)
  refine PE.imp (PE.or2 (pe_lock base) base) fun σV H Q h => ?_
  rw [ho]
  obtain ⟨O, ags, W, σ, S, sit, h⟩ := h
  rw [evE_lcD] at h
  exact lcD_imp hsub sit h
end
end PV

/-! ## PV: every expression that matches -/
namespace PV
open PySem PySem.Spec PyProof.Rows L2

section
variable {M : Nm} {G : PV.Env} {Wx : WX}
theorem ne_frs {m : Mo} {c : Xp} (h : okMo m c = true) (hc : frsh c = false) : m ≠ .frs := by
  rintro rfl
  have h : frsh c = true := h
  rw [hc] at h; cases h
theorem pos_eq {a b : Nat} (h : (a == b) = true) : (a == b) = true := h
theorem mEs_len {z : Sx} : ∀ {cs : Xps} {xs : List Expr}, mEs z cs xs = true → lenEs cs = xs.length
  | .nil, [], _ => rfl
  | .cons _ r, _ :: xs, h => by
    simp only [mEs, Bool.and_eq_true] at h
    show lenEs r + 1 = xs.length + 1
    rw [mEs_len h.2]
  | .nil, _ :: _, h => by simp [mEs] at h
  | .cons _ _, [], h => by simp [mEs] at h
theorem mEs_st {z : Sx} : ∀ {cs : Xps} {xs : List Expr}, mEs z cs xs = true → ∀ x ∈ xs, notStar x = true
  | .nil, [], _ => fun _ h => nomatch h
  | .cons _ r, x :: xs, h => by
    simp only [mEs, Bool.and_eq_true] at h
    intro y hy
    rcases List.mem_cons.mp hy with rfl | hy
    · exact h.1.1
    · exact mEs_st h.2 y hy
  | .nil, _ :: _, h => by simp [mEs] at h
  | .cons _ _, [], h => by simp [mEs] at h
theorem mD_len {z : Sx} : ∀ {cs : Xps} {ks : List (Option Expr)} {vs : List Expr}, mD z cs ks vs = true → lenEs cs = 2 * ks.length
  | .nil, [], [], _ => rfl
  | .cons _ (.cons _ r), some _ :: ks, _ :: vs, h => by
    simp only [mD, Bool.and_eq_true] at h
    show lenEs r + 1 + 1 = 2 * (ks.length + 1)
    rw [mD_len h.2]; omega
  | .nil, [], _ :: _, h => by simp [mD] at h
  | .nil, _ :: _, _, h => by simp [mD] at h
  | .cons _ .nil, _, _, h => by simp [mD] at h
  | .cons _ (.cons _ _), [], _, h => by simp [mD] at h
  | .cons _ (.cons _ _), none :: _, _, h => by simp [mD] at h
  | .cons _ (.cons _ _), some _ :: _, [], h => by simp [mD] at h
theorem w_never {X : Cx} {op : BoolOp} {es : List Expr} {p : Pos} {c : Xp} (h : ∀ σ S, evT G c σ S = .stuck) : PW X (.BoolOp op es p) (tT G M Wx c) := by
  refine ⟨fun wh pins s σV H Q I hh => ?_⟩
  obtain ⟨O, ags, W, σ, S, sit, hh⟩ := hh
  rw [h] at hh
  exact hh.elim
theorem m2_of {X : Cx} {o e f : Expr} {n : Str} {apos cpos : Pos} (hb : baseB o = true) (hl : (apos.endLine == cpos.line) = true) (h1 : notStar e = true) (h2 : notStar f = true) : M2 X o n apos e f cpos := by
  have e1 : starEach [e, f] X.env = [(false, eval e X.env), (false, eval f X.env)] := by rw [star_of h1, star_of h2]; rfl
  exact ⟨base_of hb, by rw [e1]; rfl, hl, by rw [e1]; rfl⟩
mutual
theorem sE : ∀ (c : Xp) {z : Sx} {X : Cx} {Wx : WX} (Z : Cz z X M G Wx) (e : Expr) (m : Mo), mE z c e = true → okMo m c = true → PE X e (tE G M Wx m c)
  | .var i, z, X, Wx, Z, e, m, h, hm => by
    cases e <;> first | (cases h; done) | skip
    rename_i x p
    have h : (z.N[i]? == some x && visB z.sc x && nmOk x) = true := h
    simp only [Bool.and_eq_true, beq_iff_eq] at h
    exact e_var Z h.1.1 h.1.2 h.2 hm
  | .bvar i, z, X, Wx, Z, e, m, h, hm => by
    cases e <;> first | (cases h; done) | skip
    rename_i x p
    have h : (z.N[i]? == some x && visB z.sc x && nmOk x) = true := h
    simp only [Bool.and_eq_true, beq_iff_eq] at h
    exact e_bvar Z h.1.1 h.1.2 h.2 hm
  | .lit d, z, X, Wx, Z, e, m, h, hm => by
    cases e <;> first | (cases h; done) | skip
    exact e_lit h
  | .gv n, z, X, Wx, Z, e, m, h, hm => by
    cases e <;> first | (cases h; done) | skip
    rename_i x p
    have h : (z.GN[n]? == some x && glB z.sc x && nmOk x) = true := h
    simp only [Bool.and_eq_true, beq_iff_eq] at h
    exact e_gv Z h.1.1 h.1.2 h.2
  | .bin o a b, z, X, Wx, Z, e, m, h, hm => by
    cases e <;> first | (cases h; done) | skip
    rename_i l op r p
    have h : (nrd a && op == opP o && mE z a l && mE z b r) = true := h
    simp only [Bool.and_eq_true, beq_iff_eq] at h
    obtain ⟨⟨⟨h0, rfl⟩, h1⟩, h2⟩ := h
    exact e_bin (sE a Z _ .bor h1 h0) (sE b Z _ .now h2 rfl)
  | .neg a, z, X, Wx, Z, e, m, h, hm => by
    cases e <;> first | (cases h; done) | skip
    rename_i op l p
    cases op <;> first | (cases h; done) | skip
    have h : mE z a l = true := h
    exact e_neg (sE a Z _ .now h rfl)
  | .nt a, z, X, Wx, Z, e, m, h, hm => by
    cases e <;> first | (cases h; done) | skip
    rename_i op l p
    cases op <;> first | (cases h; done) | skip
    have h : mE z a l = true := h
    exact e_nt (sE a Z _ .now h rfl)
  | .and_ a b, z, X, Wx, Z, e, m, h, hm => by
    cases e <;> first | (cases h; done) | skip
    rename_i op xs p
    cases op <;> first | (cases h; done) | skip
    match xs, h with
    | x :: y :: r, h =>
      have h : (mE z a x && mE z b (.BoolOp .And (y :: r) p)) = true := h
      simp only [Bool.and_eq_true] at h
      have hf : m ≠ .frs := ne_frs hm rfl
      exact e_and (sE a Z _ .now h.1 rfl) (sE b Z _ m h.2 (by cases m with | now => rfl | bor => exact hm | cap => exact hm | frs => exact absurd rfl hf)) hf
    | [], h => cases h
    | [_], h => cases h
  | .or_ a b, z, X, Wx, Z, e, m, h, hm => by
    cases e <;> first | (cases h; done) | skip
    rename_i op xs p
    cases op <;> first | (cases h; done) | skip
    match xs, h with
    | x :: y :: r, h =>
      have h : (mE z a x && mE z b (.BoolOp .Or (y :: r) p)) = true := h
      simp only [Bool.and_eq_true] at h
      have hf : m ≠ .frs := ne_frs hm rfl
      exact e_or (sE a Z _ .now h.1 rfl) (sE b Z _ m h.2 (by cases m with | now => rfl | bor => exact hm | cap => exact hm | frs => exact absurd rfl hf)) hf
    | [], h => cases h
    | [_], h => cases h
  | .one a, z, X, Wx, Z, e, m, h, hm => by
    cases e <;> first | (cases h; done) | skip
    rename_i op xs p
    match xs, h with
    | [x], h =>
      have h : mE z a x = true := h
      exact e_one (sE a Z _ m h (by cases m <;> exact hm))
    | [], h => cases h
    | _ :: _ :: _, h => cases h
  | .ife c a b, z, X, Wx, Z, e, m, h, hm => by
    cases e <;> first | (cases h; done) | skip
    rename_i t x y p
    have h : (mE z c t && mE z a x && mE z b y) = true := h
    simp only [Bool.and_eq_true] at h
    have hm' : okMo m a = true ∧ okMo m b = true := by
      cases m with
      | now => exact ⟨rfl, rfl⟩
      | bor => have q : (nrd a && nrd b) = true := hm; simp only [Bool.and_eq_true] at q; exact q
      | cap => have q : (cap a && cap b) = true := hm; simp only [Bool.and_eq_true] at q; exact q
      | frs => have q : (frsh a && frsh b) = true := hm; simp only [Bool.and_eq_true] at q; exact q
    exact e_ife (sT c Z _ h.1.1) (sE a Z _ m h.1.2 hm'.1) (sE b Z _ m h.2 hm'.2)
  | .cmp o a b, z, X, Wx, Z, e, m, h, hm => by
    cases e <;> first | (cases h; done) | skip
    rename_i l ops rs p
    match ops, rs, h with
    | [op], [r], h =>
      have h : (nrd a && op == copP o && notSet r && mE z a l && mE z b r) = true := h
      simp only [Bool.and_eq_true, beq_iff_eq] at h
      obtain ⟨⟨⟨⟨hn, rfl⟩, h0⟩, h1⟩, h2⟩ := h
      exact e_cmp Z h0 (sE a Z _ .bor h1 hn) (sE b Z _ .now h2 rfl)
    | [], _, h => cases h
    | [_], [], h => cases h
    | [_], _ :: _ :: _, h => cases h
    | _ :: _ :: _, _, h => cases h
  | .chn o q a b c, z, X, Wx, Z, e, m, h, hm => by
    cases e <;> first | (cases h; done) | skip
    rename_i l ops rs p
    match ops, rs, h with
    | [op, op2], [r, r2], h =>
      have h : (nrd a && nrd b && op == copP o && op2 == copP q && notSet r2 && mE z a l && mE z b r && mE z c r2) = true := h
      simp only [Bool.and_eq_true, beq_iff_eq] at h
      obtain ⟨⟨⟨⟨⟨⟨⟨hn1, hn2⟩, rfl⟩, rfl⟩, h0⟩, h1⟩, h2⟩, h3⟩ := h
      exact e_chn Z h0 (sE a Z _ .bor h1 hn1) (sE b Z _ .bor h2 hn2) (sE c Z _ .now h3 rfl)
    | [], _, h => cases h
    | [_], _, h => cases h
    | [_, _], [], h => cases h
    | [_, _], [_], h => cases h
    | [_, _], _ :: _ :: _ :: _, h => cases h
    | _ :: _ :: _ :: _, _, h => cases h
  | .tup es, z, X, Wx, Z, e, m, h, hm => by
    cases e <;> first | (cases h; done) | skip
    rename_i xs k p
    have h : (mEs z es xs && capEs es) = true := h
    simp only [Bool.and_eq_true] at h
    exact e_tup (sEs es Z xs true h.1 (fun _ => h.2) (fun q => nomatch q))
  | .lst es, z, X, Wx, Z, e, m, h, hm => by
    cases e <;> first | (cases h; done) | skip
    rename_i xs p
    have h : (mEs z es xs && capEs es) = true := h
    simp only [Bool.and_eq_true] at h
    exact e_lst (sEs es Z xs true h.1 (fun _ => h.2) (fun q => nomatch q))
  | .sub a i, z, X, Wx, Z, e, m, h, hm => by
    cases e <;> first | (cases h; done) | skip
    rename_i v s p
    have h : (nrd a && notSlice s && mE z a v && mE z i s) = true := h
    simp only [Bool.and_eq_true] at h
    exact e_sub Z (sE a Z _ .bor h.1.2 h.1.1.1) (sE i Z _ .now h.2 rfl) h.1.1.2 (ne_frs hm rfl)
  | .sli a lo hi, z, X, Wx, Z, e, m, h, hm => by
    cases e <;> first | (cases h; done) | skip
    rename_i v s p
    cases s <;> first | (cases h; done) | skip
    rename_i l u st q
    cases st <;> first | (cases h; done) | skip
    have h : (nrd a && mE z a v && mO z lo l && mO z hi u) = true := h
    simp only [Bool.and_eq_true] at h
    exact e_sli Z (sE a Z _ .bor h.1.1.2 h.1.1.1) (sO lo Z _ h.1.2) (sO hi Z _ h.2)
  | .rev a, z, X, Wx, Z, e, m, h, hm => by
    unfold mE at h
    split at h <;> first | (cases h; done) | skip
    all_goals first | exact (Xp.noConfusion ‹_›) | skip
    rename_i heq
    cases heq
    exact e_rev (sE a Z _ .now h rfl)
  | .dct0, z, X, Wx, Z, e, m, h, hm => by
    cases e <;> first | (cases h; done) | skip
    rename_i ks vs p
    match ks, vs, h with
    | [], [], h => exact e_dct0
    | [], _ :: _, h => cases h
    | _ :: _, _, h => cases h
  | .dlit x d, z, X, Wx, Z, e, m, h, hm => by
    unfold mE at h
    split at h <;> first | (cases h; done) | skip
    all_goals first | exact (Xp.noConfusion ‹_›) | skip
    rename_i heq
    cases heq
    simp only [Bool.and_eq_true] at h
    exact e_dlit (eq_of_beq h.1.1) h.1.2 h.2
  | .call f es, z, X, Wx, Z, e, m, h, hm => by
    cases e <;> first | (cases h; done) | skip
    rename_i fe xs kws p
    cases fe <;> first | (cases h; done) | skip
    rename_i x q
    match kws, h with
    | [], h =>
      have h : ((match z.FN[f]? with | some (y, n, _) => y == x && lenEs es == n | none => false) && glB z.sc x && nmOk x && mEs z es xs && capEs es) = true := h
      simp only [Bool.and_eq_true] at h
      obtain ⟨⟨⟨⟨h1, h2⟩, h3⟩, h4⟩, h5⟩ := h
      cases hf : z.FN[f]? with
      | none => rw [hf] at h1; cases h1
      | some w =>
        obtain ⟨y, n, kw⟩ := w
        rw [hf] at h1
        simp only [Bool.and_eq_true, beq_iff_eq] at h1
        obtain ⟨rfl, hl⟩ := h1
        have hmf : m ≠ .frs := ne_frs hm rfl
        have ha := sEs es Z xs true h4 (fun _ => h5) (fun q => nomatch q)
        match es, xs, h4, hl, ha with
        | .nil, [], _, hl, _ =>
          cases (show 0 = n from hl)
          exact e_call0 Z hf h2 h3 hmf
        | .cons ce cr, e :: es, h4, hl, ha =>
          have h4' : (notStar e && mE z ce e && mEs z cr es) = true := h4
          simp only [Bool.and_eq_true] at h4'
          exact e_call Z hf h2 h3 ha hl h4'.1.1 (fun pos => mEs_any h4'.2) hmf
        | .nil, _ :: _, h4, _, _ => cases h4
        | .cons _ _, [], h4, _, _ => cases h4
    | _ :: _, h => cases h
  | .callk f es ks perm, z, X, Wx, Z, e, m, h, hm => by
    cases e <;> first | (cases h; done) | skip
    rename_i fe xs kws p
    cases fe <;> first | (cases h; done) | skip
    rename_i x q
    have h : ((match z.FN[f]? with | some (y, n, q) => y == x && perm.length == n && q.contains ⟨lenEs es, kws.filterMap (·.arg), perm⟩ | none => false) && glB z.sc x && nmOk x && mEs z es xs && capEs es && mKs z ks kws && capEs ks) = true := h
    simp only [Bool.and_eq_true] at h
    obtain ⟨⟨⟨⟨⟨⟨h1, h2⟩, h3⟩, h4⟩, h5⟩, h6⟩, h7⟩ := h
    cases hf : z.FN[f]? with
    | none => rw [hf] at h1; cases h1
    | some w =>
      obtain ⟨y, n, kw⟩ := w
      rw [hf] at h1
      simp only [Bool.and_eq_true, beq_iff_eq] at h1
      obtain ⟨⟨rfl, hl⟩, hk⟩ := h1
      have hk := List.contains_iff_mem.mp hk
      have hmf : m ≠ .frs := ne_frs hm rfl
      have ha := sEs es Z xs true h4 (fun _ => h5) (fun q => nomatch q)
      have hks := sKs ks Z kws h6 h7
      match es, xs, h4, hk, ha with
      | .nil, [], _, hk, _ => exact e_callk0 Z hf h2 h3 hl hk hks h6 hmf
      | .cons ce cr, e :: es, h4, hk, ha =>
        have h4' : (notStar e && mE z ce e && mEs z cr es) = true := h4
        simp only [Bool.and_eq_true] at h4'
        exact e_callk Z hf h2 h3 hl hk ha hks h4'.1.1 (fun pos => mEs_any h4) h6 hmf
      | .nil, _ :: _, h4, _, _ => cases h4
      | .cons _ _, [], h4, _, _ => cases h4
  | .bi b es, z, X, Wx, Z, e, m, h, hm => by
    cases e <;> first | (cases h; done) | skip
    rename_i fe xs kws p
    cases fe <;> first | (cases h; done) | skip
    rename_i x q
    match kws, h with
    | [], h =>
      have h : (x == biN b && glB z.sc x && mEs z es xs && nrdEs es) = true := h
      simp only [Bool.and_eq_true, beq_iff_eq] at h
      obtain ⟨⟨⟨rfl, h2⟩, h3⟩, h3n⟩ := h
      have ha := sEs es Z xs false h3 (fun z => nomatch z) (fun _ => h3n)
      match es, xs, h3, ha with
      | .nil, _, _, _ => exact e_never fun σ S => by simp only [evE, evEs, R.bnd_ok, biD_nil, R.lif_none]
      | .cons ce cr, e :: es, h3, ha =>
        have h3' : (notStar e && mE z ce e && mEs z cr es) = true := h3
        simp only [Bool.and_eq_true] at h3'
        exact e_bi Z h2 ha h3'.1.1 (mEs_any h3'.2)
      | .cons _ _, [], h3, _ => cases h3
    | _ :: _, h => cases h
  | .isi a t, z, X, Wx, Z, e, m, h, hm => by
    cases e <;> first | (cases h; done) | skip
    rename_i fe xs kws p
    cases fe <;> first | (cases h; done) | skip
    rename_i x q
    match xs, kws, h with
    | [e, y], [], h =>
      cases y <;> first | (cases h; done) | skip
      rename_i y q2
      have h : (x == "isinstance" && y == tyN t && glB z.sc x && glB z.sc y && mE z a e && notStar e && tyB t) = true := h
      simp only [Bool.and_eq_true, beq_iff_eq] at h
      obtain ⟨⟨⟨⟨⟨⟨rfl, rfl⟩, h1⟩, h2⟩, h3⟩, h4⟩, h5⟩ := h
      exact e_isi Z h5 h1 h2 (sE a Z _ .now h3 rfl) h4
    | [e, y], _ :: _, h => cases y <;> cases h
    | [], _, h => cases h
    | [_], _, h => cases h
    | _ :: y :: _ :: _, _, h => cases y <;> cases h
  | .nev, z, X, Wx, Z, e, m, h, hm => e_never fun σ S => by simp only [evE]
  | .fnv k, z, X, Wx, Z, e, m, h, hm => by
    cases e <;> first | (cases h; done) | skip
    rename_i x p
    have h : (z.FV[k]? == some x && glB z.sc x && nmOk x) = true := h
    simp only [Bool.and_eq_true, beq_iff_eq] at h
    exact e_fnv Z h.1.1 h.1.2 h.2
  | .cfv a ar es, z, X, Wx, Z, e, m, h, hm => by
    cases e <;> first | (cases h; done) | skip
    rename_i fe xs kws p
    match kws, h with
    | [], h =>
      have h : (calB fe && !z.FV.isEmpty && fvB z ar && mE z a fe && mEs z es xs && capEs es) = true := h
      simp only [Bool.and_eq_true, Bool.not_eq_true'] at h
      obtain ⟨⟨⟨⟨⟨h1, h2⟩, h3⟩, h4⟩, h5⟩, h6⟩ := h
      have hmf : m ≠ .frs := ne_frs hm rfl
      have ha := sEs es Z xs true h5 (fun _ => h6) (fun q => nomatch q)
      refine cfv_core Z h1 (fun e => by rw [e] at h2; cases h2) h3 (sE a Z _ .now h4 rfl) ha ?_ hmf
      match es, xs, h5 with
      | .nil, [], _ => exact .inl ⟨rfl, rfl⟩
      | .cons ce cr, e :: es, h5 =>
        have h5' : (notStar e && mE z ce e && mEs z cr es) = true := h5
        simp only [Bool.and_eq_true] at h5'
        exact .inr ⟨e, es, rfl, h5'.1.1, fun pos => mEs_any h5'.2⟩
      | .nil, _ :: _, h5 => cases h5
      | .cons _ _, [], h5 => cases h5
    | _ :: _, h => cases h
  | .isx a c, z, X, Wx, Z, e, m, h, hm => by
    cases e <;> first | (cases h; done) | skip
    rename_i fe xs kws p
    cases fe <;> first | (cases h; done) | skip
    rename_i x q
    match xs, kws, h with
    | [e, y], [], h =>
      cases y <;> first | (cases h; done) | skip
      rename_i y q2
      have h : (x == "isinstance" && z.CN[c]? == some y && glB z.sc x && glB z.sc y && nmOk y && mE z a e && notStar e) = true := h
      simp only [Bool.and_eq_true, beq_iff_eq] at h
      obtain ⟨⟨⟨⟨⟨⟨rfl, h0⟩, h1⟩, h2⟩, h3⟩, h4⟩, h5⟩ := h
      exact e_isx Z h0 h1 h2 h3 (sE a Z _ .now h4 rfl) h5
    | [e, y], _ :: _, h => cases y <;> cases h
    | [], _, h => cases h
    | [_], _, h => cases h
    | _ :: y :: _ :: _, _, h => cases y <;> cases h
  | .isv a, z, X, Wx, Z, e, m, h, hm => by
    cases e <;> first | (cases h; done) | skip
    rename_i fe xs kws p
    cases fe <;> first | (cases h; done) | skip
    rename_i x q
    match xs, kws, h with
    | [e, y], [], h =>
      cases y <;> first | (cases h; done) | skip
      rename_i y q2
      have h : (!z.CN.isEmpty && x == "isinstance" && y == "ValueError" && glB z.sc x && glB z.sc y && mE z a e && notStar e) = true := h
      simp only [Bool.and_eq_true, beq_iff_eq, Bool.not_eq_true'] at h
      obtain ⟨⟨⟨⟨⟨⟨h0, rfl⟩, rfl⟩, h1⟩, h2⟩, h4⟩, h5⟩ := h
      exact e_isv Z (fun e => by rw [e] at h0; cases h0) h1 h2 (sE a Z _ .now h4 rfl) h5
    | [e, y], _ :: _, h => cases y <;> cases h
    | [], _, h => cases h
    | [_], _, h => cases h
    | _ :: y :: _ :: _, _, h => cases y <;> cases h
  | .xval a, z, X, Wx, Z, e, m, h, hm => by
    cases e <;> first | (cases h; done) | skip
    rename_i o name p
    have h : (!z.CN.isEmpty && name == "value" && baseB o && mE z a o) = true := h
    simp only [Bool.and_eq_true, beq_iff_eq, Bool.not_eq_true'] at h
    obtain ⟨⟨⟨h0, rfl⟩, h1⟩, h2⟩ := h
    exact e_xval Z (fun e => by rw [e] at h0; cases h0) h1 (sE a Z _ .now h2 rfl) (ne_frs hm rfl)
  | .isi2 a t u, z, X, Wx, Z, e, m, h, hm => by
    cases e <;> first | (cases h; done) | skip
    rename_i fe xs kws p
    cases fe <;> first | (cases h; done) | skip
    rename_i x q
    unfold mE at h
    split at h <;> first | (cases h; done) | skip
    all_goals first | exact (Xp.noConfusion ‹_›) | skip
    rename_i h1 h2
    cases h1
    cases h2
    simp only [Bool.and_eq_true, beq_iff_eq] at h
    obtain ⟨⟨⟨⟨⟨⟨⟨⟨⟨⟨rfl, rfl⟩, rfl⟩, h1⟩, h2⟩, h3⟩, h4⟩, h5⟩, h6⟩, h7⟩, h8⟩ := h
    exact e_isi2 Z h6 h7 h1 h2 h3 (sE a Z _ .bor h4 h8) h5
  | .mt mm a es, z, X, Wx, Z, e, m, h, hm => by
    cases e <;> first | (cases h; done) | skip
    rename_i fe xs kws p
    cases fe <;> first | (cases h; done) | skip
    rename_i o name ap
    match kws, h with
    | [], h =>
      have h : (nrd a && nrdEs es && name == mtN mm && baseB o && ap.endLine == p.line && decide (xs.length < 28) && mtB mm xs && mE z a o && mEs z es xs) = true := h
      simp only [Bool.and_eq_true, decide_eq_true_eq] at h
      obtain ⟨⟨⟨⟨⟨⟨⟨⟨hna, hne⟩, hn⟩, h1⟩, h2⟩, h3⟩, h4⟩, h5⟩, h6⟩ := h
      have hn : name = mtN mm := eq_of_beq hn
      subst hn
      have ha := sEs es Z xs false h6 (fun z => nomatch z) (fun _ => hne)
      have ho := sE a Z _ .bor h5 hna
      match mm, es, xs, h6, h4, h3, ha with
      | .join, .cons ce cr, e :: es, h6, h4, h3, ha =>
        have h6' : (notStar e && mE z ce e && mEs z cr es) = true := h6
        simp only [Bool.and_eq_true] at h6'
        exact e_join Z h1 h2 h3 ho ha h6'.1.1 fun pos => mEs_any h6
      | .join, .nil, [], _, h4, _, _ => cases h4
      | .join, .nil, _ :: _, h6, _, _, _ => cases h6
      | .join, .cons _ _, [], h6, _, _, _ => cases h6
      | .bitlen, .nil, [], _, _, _, _ => exact e_bits h1 h2 ho
      | .bitlen, .cons _ _, _ :: _, _, h4, _, _ => cases h4
      | .bitlen, .nil, _ :: _, h6, _, _, _ => cases h6
      | .bitlen, .cons _ _, [], h6, _, _, _ => cases h6
      | .index, .cons ce cr, e :: es, h6, h4, h3, ha =>
        have h6' : (notStar e && mE z ce e && mEs z cr es) = true := h6
        simp only [Bool.and_eq_true] at h6'
        exact e_sindex Z h1 h2 h3 ho ha h6'.1.1 fun pos => mEs_any h6
      | .index, _, [], _, h4, _, _ => cases h4
      | .index, .nil, _ :: _, h6, _, _, _ => cases h6
      | .get, _, _, _, h4, _, _ => cases h4
      | .upper, _, _, _, h4, _, _ => cases h4
    | _ :: _, h => cases h
  | .lc ce own t it cc, z, X, Wx, Z, e, m, h, hm => by
    cases e <;> first | (cases h; done) | skip
    rename_i x gs scope p
    match gs, h with
    | [⟨tg, iter, ifs, n⟩], h =>
      have h : (n == 0 && blkB z.N z.sc scope own && notSet iter && mI z it tg iter && (tgS t).all own.contains && mT { z with sc := relS scope z.sc, raw := some scope } t tg && mC { z with sc := relS scope z.sc, raw := some scope } cc ifs &&
        mE { z with sc := relS scope z.sc, raw := some scope } ce x && cap ce) = true := h
      simp only [Bool.and_eq_true, beq_iff_eq] at h
      obtain ⟨⟨⟨⟨⟨⟨⟨⟨rfl, h1⟩, h2⟩, h3⟩, h4⟩, h5⟩, h6⟩, h7⟩, h8⟩ := h
      refine e_lc Z h1 h2 (sI it Z tg iter h3) h4 (fun s H C cl fp => ?_) (fun s H C cl fp => ?_) (fun s H C cl fp => ?_)
      · have Zb := Z.blk s H C cl fp scope
        exact sG Zb.calm Zb.nd Zb.N Zb.env Zb.fnb t tg h5
      · exact sC cc (Z.blk s H C cl fp scope) ifs h6
      · exact sE ce (Z.blk s H C cl fp scope) x .cap h7 h8
    | [], h => cases h
    | ⟨_, _, _, _⟩ :: ⟨_, _, _, _⟩ :: _, h => cases h
  | .lcR ce own t ca cc, z, X, Wx, Z, e, m, h, hm => by
    cases e <;> first | (cases h; done) | skip
    rename_i x gs scope p
    match gs, h with
    | [⟨tg, iter, ifs, n⟩], h =>
      have h : (n == 0 && blkB z.N z.sc scope own && notSet iter && (mE z ca iter && cap ca) && (tgS t).all own.contains && mT { z with sc := relS scope z.sc, raw := some scope } t tg && mC { z with sc := relS scope z.sc, raw := some scope } cc ifs &&
        mE { z with sc := relS scope z.sc, raw := some scope } ce x && cap ce) = true := h
      simp only [Bool.and_eq_true, beq_iff_eq] at h
      obtain ⟨⟨⟨⟨⟨⟨⟨⟨rfl, h1⟩, h2⟩, h3, h3'⟩, h4⟩, h5⟩, h6⟩, h7⟩, h8⟩ := h
      refine e_lcR Z h1 h2 (sE ca Z iter .cap h3 h3') h4 (fun s H C cl fp => ?_) (fun s H C cl fp => ?_) (fun s H C cl fp => ?_)
      · have Zb := Z.blk s H C cl fp scope
        exact sG Zb.calm Zb.nd Zb.N Zb.env Zb.fnb t tg h5
      · exact sC cc (Z.blk s H C cl fp scope) ifs h6
      · exact sE ce (Z.blk s H C cl fp scope) x .cap h7 h8
    | [], h => cases h
    | ⟨_, _, _, _⟩ :: ⟨_, _, _, _⟩ :: _, h => cases h
  | .lcZ ce own t ab cc, z, X, Wx, Z, e, m, h, hm => by
    cases e <;> first | (cases h; done) | skip
    rename_i x gs scope p
    match gs, h with
    | [⟨tg, iter, ifs, n⟩], h =>
      have h : (n == 0 && blkB z.N z.sc scope own && (match zipO iter with | some (zn, ea, eb) => zn == "zip" && glB z.sc zn && mEs z ab [ea, eb] | none => false) && isTup tg && capEs ab && (tgS t).all own.contains && mT { z with sc := relS scope z.sc, raw := some scope } t tg && mC { z with sc := relS scope z.sc, raw := some scope } cc ifs &&
        mE { z with sc := relS scope z.sc, raw := some scope } ce x && cap ce) = true := h
      simp only [Bool.and_eq_true, beq_iff_eq] at h
      obtain ⟨⟨⟨⟨⟨⟨⟨⟨⟨rfl, h1⟩, hzip⟩, h2'⟩, hcap⟩, h4⟩, h5⟩, h6⟩, h7⟩, h8⟩ := h
      cases hz : zipO iter with
      | none => rw [hz] at hzip; cases hzip
      | some q =>
        obtain ⟨zn, ea, eb⟩ := q
        rw [hz] at hzip
        have hzip : (zn == "zip" && glB z.sc zn && mEs z ab [ea, eb]) = true := hzip
        simp only [Bool.and_eq_true, beq_iff_eq] at hzip
        obtain ⟨⟨rfl, hg⟩, hes⟩ := hzip
        obtain ⟨p1, p2, rfl⟩ := zipO_eq hz
        have hst := mEs_st hes
        refine e_lcZ Z h1 hg h2' (sEs ab Z [ea, eb] true hes (fun _ => hcap) (fun q => nomatch q)) (hst ea (by simp)) (hst eb (by simp)) h4 (fun s H C cl fp => ?_) (fun s H C cl fp => ?_) (fun s H C cl fp => ?_)
        · have Zb := Z.blk s H C cl fp scope
          exact sG Zb.calm Zb.nd Zb.N Zb.env Zb.fnb t tg h5
        · exact sC cc (Z.blk s H C cl fp scope) ifs h6
        · exact sE ce (Z.blk s H C cl fp scope) x .cap h7 h8
    | [], h => cases h
    | ⟨_, _, _, _⟩ :: ⟨_, _, _, _⟩ :: _, h => cases h
  | .lcD ce own t i cc, z, X, Wx, Z, e, m, h, hm => by
    cases e <;> first | (cases h; done) | skip
    rename_i x gs scope p
    match gs, h with
    | [⟨tg, iter, ifs, n⟩], h =>
      have h : (n == 0 && blkB z.N z.sc scope own && (match nameO iter with | some y => z.N[i]? == some y && visB z.sc y && nmOk y | none => false) && (tgS t).all own.contains && mT { z with sc := relS scope z.sc, raw := some scope } t tg && mC { z with sc := relS scope z.sc, raw := some scope } cc ifs &&
        mE { z with sc := relS scope z.sc, raw := some scope } ce x && cap ce) = true := h
      simp only [Bool.and_eq_true, beq_iff_eq] at h
      obtain ⟨⟨⟨⟨⟨⟨⟨rfl, h1⟩, hnm⟩, h4⟩, h5⟩, h6⟩, h7⟩, h8⟩ := h
      cases hz : nameO iter with
      | none => rw [hz] at hnm; cases hnm
      | some y =>
        rw [hz] at hnm
        have hnm : (z.N[i]? == some y && visB z.sc y && nmOk y) = true := hnm
        simp only [Bool.and_eq_true, beq_iff_eq] at hnm
        obtain ⟨⟨hN, hv⟩, hn⟩ := hnm
        obtain ⟨p2, rfl⟩ := nameO_eq hz
        refine e_lcD Z h1 hN hv hn h4 (fun s H C cl fp => ?_) (fun s H C cl fp => ?_) (fun s H C cl fp => ?_)
        · have Zb := Z.blk s H C cl fp scope
          exact sG Zb.calm Zb.nd Zb.N Zb.env Zb.fnb t tg h5
        · exact sC cc (Z.blk s H C cl fp scope) ifs h6
        · exact sE ce (Z.blk s H C cl fp scope) x .cap h7 h8
    | [], h => cases h
    | ⟨_, _, _, _⟩ :: ⟨_, _, _, _⟩ :: _, h => cases h
  | .lrg es, z, X, Wx, Z, e, m, h, hm => by
    match es, e, h with
    | .cons a .nil, .Call (.Name x p1) [.Call (.Name y p2) [e] [] p3] [] p4, h =>
      have h : (x == "list" && y == "range" && glB z.sc x && glB z.sc y && mE z a e && notStar e) = true := h
      simp only [Bool.and_eq_true, beq_iff_eq] at h
      obtain ⟨⟨⟨⟨⟨rfl, rfl⟩, h1⟩, h2⟩, h3⟩, h4⟩ := h
      exact e_lrg1 Z h1 h2 (sE a Z _ .now h3 rfl) h4
    | .cons a (.cons b .nil), .Call (.Name x p1) [.Call (.Name y p2) [e, f] [] p3] [] p4, h =>
      have h : (x == "list" && y == "range" && glB z.sc x && glB z.sc y && (mE z a e && notStar e && nrd a) && (mE z b f && notStar f)) = true := h
      simp only [Bool.and_eq_true, beq_iff_eq] at h
      obtain ⟨⟨⟨⟨⟨rfl, rfl⟩, h1⟩, h2⟩, ⟨h3, h4⟩, h5⟩, h6, h7⟩ := h
      exact e_lrg2 Z h1 h2 (sE a Z _ .bor h3 h5) h4 (sE b Z _ .now h6 rfl) h7
  | .dgt a k v, z, X, Wx, Z, e, m, h, hm => by
    match e, h with
    | .Call (.Attribute o name ap) [e, f] [] p, h =>
      have h : (name == "get" && nrd a && cap k && baseB o && ap.endLine == p.line && mE z a o && (mE z k e && notStar e) && (mE z v f && notStar f)) = true := h
      simp only [Bool.and_eq_true, beq_iff_eq] at h
      obtain ⟨⟨⟨⟨⟨⟨⟨rfl, h1⟩, h2⟩, h3⟩, h4⟩, h5⟩, h6, h7⟩, h8, h9⟩ := h
      have h4 : (ap.endLine == p.line) = true := by simpa using h4
      exact e_dgt (by have := Z.un; omega) (sE a Z _ .bor h5 h1) (sE k Z _ .cap h6 h2) (sE v Z _ .now h8 rfl) (m2_of h3 h4 h7 h9) (ne_frs hm rfl)
  | .lstI a, z, X, Wx, Z, e, m, h, hm => by
    cases e <;> first | (cases h; done) | skip
    rename_i fe xs kws p
    cases fe <;> first | (cases h; done) | skip
    rename_i x q
    match xs, kws, h with
    | [e], [], h =>
      have h : (x == "list" && glB z.sc x && notStar e && mE z a e) = true := h
      simp only [Bool.and_eq_true, beq_iff_eq] at h
      obtain ⟨⟨⟨rfl, h1⟩, h2⟩, h3⟩ := h
      exact e_lstI Z Z.hd h1 (sE a Z _ .now h3 rfl) h2
    | [], _, h => cases h
    | [_], _ :: _, h => cases h
    | _ :: _ :: _, _, h => cases h
  | .tupI a, z, X, Wx, Z, e, m, h, hm => by
    cases e <;> first | (cases h; done) | skip
    rename_i fe xs kws p
    cases fe <;> first | (cases h; done) | skip
    rename_i x q
    match xs, kws, h with
    | [e], [], h =>
      have h : (x == "tuple" && glB z.sc x && notStar e && mE z a e) = true := h
      simp only [Bool.and_eq_true, beq_iff_eq] at h
      obtain ⟨⟨⟨rfl, h1⟩, h2⟩, h3⟩ := h
      exact e_tupI Z h1 (sE a Z _ .now h3 rfl) h2
    | [], _, h => cases h
    | [_], _ :: _, h => cases h
    | _ :: _ :: _, _, h => cases h
  | .pub a, z, X, Wx, Z, e, m, h, hm => by
    have h : (mE z a e && frsh a) = true := by cases e <;> exact h
    simp only [Bool.and_eq_true] at h
    exact e_pub (sE a Z e .frs h.1 h.2)
  | .rd a, z, X, Wx, Z, e, m, h, hm => by
    have h : (mE z a e && nrd a) = true := by cases e <;> exact h
    simp only [Bool.and_eq_true] at h
    cases m with
    | now => exact e_rd (sE a Z e .bor h.1 h.2)
    | bor => cases hm
    | cap => cases hm
    | frs => cases hm
  | .dsp es, z, X, Wx, Z, e, m, h, hm => by
    cases e <;> first | (cases h; done) | skip
    rename_i keys vals p
    have h : (mD z es keys vals && capEs es && !keys.isEmpty && decide (keys.length ≤ 15) && keys.all (·.isSome) && keys.length == vals.length) = true := h
    simp only [Bool.and_eq_true, beq_iff_eq, decide_eq_true_eq] at h
    obtain ⟨⟨⟨⟨⟨h1, h2⟩, h3⟩, h4⟩, h5⟩, h6⟩ := h
    refine e_dsp (sD es Z p keys vals h1 h2) h5 h6 (fun z => ?_) h4 (fun {σ S ds S'} q => ?_)
    · subst z; cases h3
    · rw [evEs_len es q]; exact mD_len h1
  | .dspT k v, z, X, Wx, Z, e, m, h, hm => by
    cases e <;> first | (cases h; done) | skip
    rename_i keys vals p
    match keys, vals, h with
    | [some kx], [vx], h =>
      have h : (mE z k kx && mE z v vx && cap k && cap v) = true := h
      simp only [Bool.and_eq_true] at h
      exact e_dspT (by have := Z.un; omega) (sE k Z kx .cap h.1.1.1 h.1.2) (sE v Z vx .cap h.1.1.2 h.2)
    | [], _, h => cases h
    | [none], _, h => cases h
    | [some _], [], h => cases h
    | [some _], _ :: _ :: _, h => cases h
    | none :: _ :: _, _, h => cases h
    | some _ :: _ :: _, _, h => cases h
  | .dctT, z, X, Wx, Z, e, m, h, hm => by
    cases e <;> first | (cases h; done) | skip
    rename_i ks vs p
    match ks, vs, h with
    | [], [], h => exact e_dctT
    | [], _ :: _, h => cases h
    | _ :: _, _, h => cases h
  | .cmpX o a b, z, X, Wx, Z, e, m, h, hm => by
    cases e <;> first | (cases h; done) | skip
    rename_i l ops rs p
    match ops, rs, h with
    | [op], [r], h =>
      have h : (nrd a && nrd b && op == copP o && notSet r && mE z a l && mE z b r) = true := h
      simp only [Bool.and_eq_true, beq_iff_eq] at h
      obtain ⟨⟨⟨⟨⟨hn, hn2⟩, rfl⟩, h0⟩, h1⟩, h2⟩ := h
      exact e_cmpX Z h0 (sE a Z _ .bor h1 hn) (sE b Z _ .bor h2 hn2)
    | [], _, h => cases h
    | [_], [], h => cases h
    | [_], _ :: _ :: _, h => cases h
    | _ :: _ :: _, _, h => cases h
  | .rpr a, z, X, Wx, Z, e, m, h, hm => by
    cases e <;> first | (cases h; done) | skip
    rename_i fe xs kws p
    cases fe <;> first | (cases h; done) | skip
    rename_i x q
    match xs, kws, h with
    | [e], [], h =>
      have h : (x == "repr" && glB z.sc x && notStar e && mE z a e) = true := h
      simp only [Bool.and_eq_true, beq_iff_eq] at h
      obtain ⟨⟨⟨rfl, h1⟩, h2⟩, h3⟩ := h
      exact e_rpr Z h1 (sE a Z _ .now h3 rfl) h2
    | [], _, h => cases h
    | [_], _ :: _, h => cases h
    | _ :: _ :: _, _, h => cases h
termination_by c => (sizeOf c, 0)
theorem sD : ∀ (cs : Xps) {z : Sx} {X : Cx} {Wx : WX} (Z : Cz z X M G Wx) (pos : Pos) (ks : List (Option Expr)) (vs : List Expr), mD z cs ks vs = true → capEs cs = true → PPx X G M Wx pos cs ks vs
  | .nil, z, X, Wx, Z, pos, ks, vs, h, hb => by
    match ks, vs, h with
    | [], [], h => exact d_nil
    | [], _ :: _, h => cases h
    | _ :: _, _, h => cases h
  | .cons k .nil, z, X, Wx, Z, pos, ks, vs, h, hb => by
    match ks, vs, h with
    | [], _, h => cases h
    | _ :: _, _, h => cases h
  | .cons k (.cons v r), z, X, Wx, Z, pos, ks, vs, h, hb => by
    match ks, vs, h with
    | some kx :: ks, vx :: vs, h =>
      have h : (mE z k kx && mE z v vx && mD z r ks vs) = true := h
      simp only [Bool.and_eq_true] at h
      have q : (cap k && (cap v && capEs r)) = true := hb
      simp only [Bool.and_eq_true] at q
      exact d_cons (sE k Z kx .cap h.1.1 q.1) (sE v Z vx .cap h.1.2 q.2.1) (sD r Z pos ks vs h.2 q.2.2)
    | [], _, h => cases h
    | none :: _, _, h => cases h
    | some _ :: _, [], h => cases h
termination_by c => (sizeOf c, 0)
theorem sT : ∀ (c : Xp) {z : Sx} {X : Cx} {Wx : WX} (Z : Cz z X M G Wx) (e : Expr), mE z c e = true → PT X e (tT G M Wx c)
  | .nt a, z, X, Wx, Z, e, h => by
    cases e <;> first | (cases h; done) | skip
    rename_i op l p
    cases op <;> first | (cases h; done) | skip
    have h : mE z a l = true := h
    exact t_not (sT a Z _ h)
  | .and_ a b, z, X, Wx, Z, e, h => by
    cases e <;> first | (cases h; done) | skip
    rename_i op xs p
    cases op <;> first | (cases h; done) | skip
    match xs, h with
    | x :: y :: r, h =>
      have h : (mE z a x && mE z b (.BoolOp .And (y :: r) p)) = true := h
      simp only [Bool.and_eq_true] at h
      exact (w_and (sT a Z _ h.1) (sW b Z _ _ _ h.2)).pt
    | [], h => cases h
    | [_], h => cases h
  | .or_ a b, z, X, Wx, Z, e, h => by
    cases e <;> first | (cases h; done) | skip
    rename_i op xs p
    cases op <;> first | (cases h; done) | skip
    match xs, h with
    | x :: y :: r, h =>
      have h : (mE z a x && mE z b (.BoolOp .Or (y :: r) p)) = true := h
      simp only [Bool.and_eq_true] at h
      exact (w_or (sT a Z _ h.1) (sW b Z _ _ _ h.2)).pt
    | [], h => cases h
    | [_], h => cases h
  | .one a, z, X, Wx, Z, e, h => by
    cases e <;> first | (cases h; done) | skip
    rename_i op xs p
    match xs, h with
    | [x], h =>
      have h : mE z a x = true := h
      exact (w_one (sT a Z _ h)).pt
    | [], h => cases h
    | _ :: _ :: _, h => cases h
  | .cmp o a b, z, X, Wx, Z, e, h => by
    cases e <;> first | (cases h; done) | skip
    rename_i l ops rs p
    match ops, rs, h with
    | [op], [r], h =>
      have h : (nrd a && op == copP o && notSet r && mE z a l && mE z b r) = true := h
      simp only [Bool.and_eq_true, beq_iff_eq] at h
      obtain ⟨⟨⟨⟨hn, rfl⟩, h0⟩, h1⟩, h2⟩ := h
      exact t_cmp Z h0 (sE a Z _ .bor h1 hn) (sE b Z _ .now h2 rfl)
    | [], _, h => cases h
    | [_], [], h => cases h
    | [_], _ :: _ :: _, h => cases h
    | _ :: _ :: _, _, h => cases h
  | .cmpX o a b, z, X, Wx, Z, e, h => by
    cases e <;> first | (cases h; done) | skip
    rename_i l ops rs p
    match ops, rs, h with
    | [op], [r], h =>
      have h : (nrd a && nrd b && op == copP o && notSet r && mE z a l && mE z b r) = true := h
      simp only [Bool.and_eq_true, beq_iff_eq] at h
      obtain ⟨⟨⟨⟨⟨hn, hn2⟩, rfl⟩, h0⟩, h1⟩, h2⟩ := h
      exact t_cmpX Z h0 (sE a Z _ .bor h1 hn) (sE b Z _ .bor h2 hn2)
    | [], _, h => cases h
    | [_], [], h => cases h
    | [_], _ :: _ :: _, h => cases h
    | _ :: _ :: _, _, h => cases h
  | .chn o q a b c, z, X, Wx, Z, e, h => by
    cases e <;> first | (cases h; done) | skip
    rename_i l ops rs p
    match ops, rs, h with
    | [op, op2], [r, r2], h =>
      have h : (nrd a && nrd b && op == copP o && op2 == copP q && notSet r2 && mE z a l && mE z b r && mE z c r2) = true := h
      simp only [Bool.and_eq_true, beq_iff_eq] at h
      obtain ⟨⟨⟨⟨⟨⟨⟨hn1, hn2⟩, rfl⟩, rfl⟩, h0⟩, h1⟩, h2⟩, h3⟩ := h
      exact t_chn Z h0 (sE a Z _ .bor h1 hn1) (sE b Z _ .bor h2 hn2) (sE c Z _ .now h3 rfl)
    | [], _, h => cases h
    | [_], _, h => cases h
    | [_, _], [], h => cases h
    | [_, _], [_], h => cases h
    | [_, _], _ :: _ :: _ :: _, h => cases h
    | _ :: _ :: _ :: _, _, h => cases h
  | .var i, z, X, Wx, Z, e, h => by
    have hE := sE (.var i) Z e .now h rfl
    cases e <;> first | (cases h; done) | skip
    exact t_val hE (fun _ => rfl) (evT_val rfl)
  | .bvar i, z, X, Wx, Z, e, h => by
    have hE := sE (.bvar i) Z e .now h rfl
    cases e <;> first | (cases h; done) | skip
    exact t_val hE (fun _ => rfl) (evT_val rfl)
  | .call f es, z, X, Wx, Z, e, h => by
    have hE := sE (.call f es) Z e .now h rfl
    cases e <;> first | (cases h; done) | skip
    exact t_val hE (fun _ => rfl) (evT_val rfl)
  | .bi b es, z, X, Wx, Z, e, h => by
    have hE := sE (.bi b es) Z e .now h rfl
    cases e <;> first | (cases h; done) | skip
    exact t_val hE (fun _ => rfl) (evT_val rfl)
  | .isi a t, z, X, Wx, Z, e, h => by
    have hE := sE (.isi a t) Z e .now h rfl
    cases e <;> first | (cases h; done) | skip
    exact t_val hE (fun _ => rfl) (evT_val rfl)
  | .sub a i, z, X, Wx, Z, e, h => by
    have hE := sE (.sub a i) Z e .now h rfl
    cases e <;> first | (cases h; done) | skip
    exact t_val hE (fun _ => rfl) (evT_val rfl)
  | .nev, _, _, _, _, _, _ => t_never fun _ _ => by simp only [evT]
  | .fnv _, _, _, _, _, _, _ => t_never fun _ _ => by simp only [evT]
  | .xval _, _, _, _, _, _, _ => t_never fun _ _ => by simp only [evT]
  | .isx a c, z, X, Wx, Z, e, h => by
    have hE := sE (.isx a c) Z e .now h rfl
    cases e <;> first | (cases h; done) | skip
    exact t_val hE (fun _ => rfl) (evT_val rfl)
  | .isv a, z, X, Wx, Z, e, h => by
    have hE := sE (.isv a) Z e .now h rfl
    cases e <;> first | (cases h; done) | skip
    exact t_val hE (fun _ => rfl) (evT_val rfl)
  | .isi2 a t u, z, X, Wx, Z, e, h => by
    have hE := sE (.isi2 a t u) Z e .now h rfl
    cases e <;> first | (cases h; done) | skip
    exact t_val hE (fun _ => rfl) (evT_val rfl)
  | .cfv a ar es, z, X, Wx, Z, e, h => by
    have hE := sE (.cfv a ar es) Z e .now h rfl
    cases e <;> first | (cases h; done) | skip
    exact t_val hE (fun _ => rfl) (evT_val rfl)
  | .lit _, _, _, _, _, _, _ => t_never fun _ _ => by simp only [evT]
  | .gv _, _, _, _, _, _, _ => t_never fun _ _ => by simp only [evT]
  | .bin _ _ _, _, _, _, _, _, _ => t_never fun _ _ => by simp only [evT]
  | .neg _, _, _, _, _, _, _ => t_never fun _ _ => by simp only [evT]
  | .ife _ _ _, _, _, _, _, _, _ => t_never fun _ _ => by simp only [evT]
  | .tup _, _, _, _, _, _, _ => t_never fun _ _ => by simp only [evT]
  | .lst _, _, _, _, _, _, _ => t_never fun _ _ => by simp only [evT]
  | .sli _ _ _, _, _, _, _, _, _ => t_never fun _ _ => by simp only [evT]
  | .rev _, _, _, _, _, _, _ => t_never fun _ _ => by simp only [evT]
  | .dct0, _, _, _, _, _, _ => t_never fun _ _ => by simp only [evT]
  | .dlit _ _, _, _, _, _, _, _ => t_never fun _ _ => by simp only [evT]
  | .callk _ _ _ _, _, _, _, _, _, _ => t_never fun _ _ => by simp only [evT]
  | .mt _ _ _, _, _, _, _, _, _ => t_never fun _ _ => by simp only [evT]
  | .lc _ _ _ _ _, _, _, _, _, _, _ => t_never fun _ _ => by simp only [evT]
  | .lstI _, _, _, _, _, _, _ => t_never fun _ _ => by simp only [evT]
  | .lcR _ _ _ _ _, _, _, _, _, _, _ => t_never fun _ _ => by simp only [evT]
  | .lrg _, _, _, _, _, _, _ => t_never fun _ _ => by simp only [evT]
  | .lcD _ _ _ _ _, _, _, _, _, _, _ => t_never fun _ _ => by simp only [evT]
  | .lcZ _ _ _ _ _, _, _, _, _, _, _ => t_never fun _ _ => by simp only [evT]
  | .dgt _ _ _, _, _, _, _, _, _ => t_never fun _ _ => by simp only [evT]
  | .tupI _, _, _, _, _, _, _ => t_never fun _ _ => by simp only [evT]
  | .pub _, _, _, _, _, _, _ => t_never fun _ _ => by simp only [evT]
  | .rd _, _, _, _, _, _, _ => t_never fun _ _ => by simp only [evT]
  | .dsp _, _, _, _, _, _, _ => t_never fun _ _ => by simp only [evT]
  | .dspT _ _, _, _, _, _, _, _ => t_never fun _ _ => by simp only [evT]
  | .dctT, _, _, _, _, _, _ => t_never fun _ _ => by simp only [evT]
  | .rpr _, _, _, _, _, _, _ => t_never fun _ _ => by simp only [evT]
termination_by c => (sizeOf c, 1)
theorem sW : ∀ (c : Xp) {z : Sx} {X : Cx} {Wx : WX} (Z : Cz z X M G Wx) (op : BoolOp) (es : List Expr) (p : Pos), mE z c (.BoolOp op es p) = true → PW X (.BoolOp op es p) (tT G M Wx c)
  | .and_ a b, z, X, Wx, Z, op, xs, p, h => by
    cases op <;> first | (cases h; done) | skip
    match xs, h with
    | x :: y :: r, h =>
      have h : (mE z a x && mE z b (.BoolOp .And (y :: r) p)) = true := h
      simp only [Bool.and_eq_true] at h
      exact w_and (sT a Z _ h.1) (sW b Z _ _ _ h.2)
    | [], h => cases h
    | [_], h => cases h
  | .or_ a b, z, X, Wx, Z, op, xs, p, h => by
    cases op <;> first | (cases h; done) | skip
    match xs, h with
    | x :: y :: r, h =>
      have h : (mE z a x && mE z b (.BoolOp .Or (y :: r) p)) = true := h
      simp only [Bool.and_eq_true] at h
      exact w_or (sT a Z _ h.1) (sW b Z _ _ _ h.2)
    | [], h => cases h
    | [_], h => cases h
  | .one a, z, X, Wx, Z, op, xs, p, h => by
    match xs, h with
    | [x], h =>
      have h : mE z a x = true := h
      exact w_one (sT a Z _ h)
    | [], h => cases h
    | _ :: _ :: _, h => cases h
  | .nev, _, _, _, _, _, _, _, _ => w_never fun _ _ => by simp only [evT]
  | .fnv _, _, _, _, _, _, _, _, h => by cases h
  | .xval _, _, _, _, _, _, _, _, h => by cases h
  | .isx _ _, _, _, _, _, _, _, _, h => by cases h
  | .isv _, _, _, _, _, _, _, _, h => by cases h
  | .isi2 _ _ _, _, _, _, _, _, _, _, h => by cases h
  | .cfv _ _ _, _, _, _, _, _, _, _, h => by cases h
  | .lit _, _, _, _, _, _, _, _, h => by cases h
  | .var _, _, _, _, _, _, _, _, h => by cases h
  | .bvar _, _, _, _, _, _, _, _, h => by cases h
  | .gv _, _, _, _, _, _, _, _, h => by cases h
  | .bin _ _ _, _, _, _, _, _, _, _, h => by cases h
  | .neg _, _, _, _, _, _, _, _, h => by cases h
  | .nt _, _, _, _, _, _, _, _, h => by cases h
  | .ife _ _ _, _, _, _, _, _, _, _, h => by cases h
  | .cmp _ _ _, _, _, _, _, _, _, _, h => by cases h
  | .chn _ _ _ _ _, _, _, _, _, _, _, _, h => by cases h
  | .tup _, _, _, _, _, _, _, _, h => by cases h
  | .lst _, _, _, _, _, _, _, _, h => by cases h
  | .sub _ _, _, _, _, _, _, _, _, h => by cases h
  | .sli _ _ _, _, _, _, _, _, _, _, h => by cases h
  | .rev _, _, _, _, _, _, _, _, h => by cases h
  | .dct0, _, _, _, _, _, _, _, h => by cases h
  | .dlit _ _, _, _, _, _, _, _, _, h => by cases h
  | .call _ _, _, _, _, _, _, _, _, h => by cases h
  | .callk _ _ _ _, _, _, _, _, _, _, _, h => by cases h
  | .bi _ _, _, _, _, _, _, _, _, h => by cases h
  | .isi _ _, _, _, _, _, _, _, _, h => by cases h
  | .mt _ _ _, _, _, _, _, _, _, _, h => by cases h
  | .lc _ _ _ _ _, _, _, _, _, _, _, _, h => by cases h
  | .lstI _, _, _, _, _, _, _, _, h => by cases h
  | .lcR _ _ _ _ _, _, _, _, _, _, _, _, h => by cases h
  | .lcZ _ _ _ _ _, _, _, _, _, _, _, _, h => by cases h
  | .lcD _ _ _ _ _, _, _, _, _, _, _, _, h => by cases h
  | .lrg es, _, _, _, _, _, _, _, h => by
    match es, h with
    | .nil, h => cases h
    | .cons _ .nil, h => cases h
    | .cons _ (.cons _ .nil), h => cases h
    | .cons _ (.cons _ (.cons _ _)), h => cases h
  | .dgt _ _ _, _, _, _, _, _, _, _, h => by cases h
  | .tupI _, _, _, _, _, _, _, _, h => by cases h
  | .pub a, z, X, Wx, Z, op, xs, p, h => by
    exact w_never fun _ _ => by simp only [evT]
  | .rd a, z, X, Wx, Z, op, xs, p, h => by
    exact w_never fun _ _ => by simp only [evT]
  | .dsp _, _, _, _, _, _, _, _, h => by cases h
  | .dspT _ _, _, _, _, _, _, _, _, h => by cases h
  | .dctT, _, _, _, _, _, _, _, h => by cases h
  | .cmpX _ _ _, _, _, _, _, _, _, _, h => by cases h
  | .rpr _, _, _, _, _, _, _, _, h => by cases h
termination_by c => (sizeOf c, 0)
theorem sEs : ∀ (cs : Xps) {z : Sx} {X : Cx} {Wx : WX} (Z : Cz z X M G Wx) (xs : List Expr) (b : Bool), mEs z cs xs = true → (b = true → capEs cs = true) → (b = false → nrdEs cs = true) → PA X xs (tA G M Wx b cs)
  | .nil, z, X, Wx, Z, xs, b, h, hb, hn => by
    cases xs <;> first | (cases h; done) | skip
    exact a_nil b
  | .cons c .nil, z, X, Wx, Z, xs, b, h, hb, hn => by
    cases xs <;> first | (cases h; done) | skip
    rename_i x xs
    have h : (notStar x && mE z c x && mEs z .nil xs) = true := h
    simp only [Bool.and_eq_true] at h
    cases xs with
    | cons _ _ => exact absurd h.2 (by simp [mEs])
    | nil =>
      cases b with
      | true =>
        have hb' : cap c = true ∧ capEs .nil = true := by
          have q : (cap c && capEs .nil) = true := hb rfl
          simpa using q
        exact a_cons (sE c Z _ .cap h.1.2 hb'.1) (a_nil true) h.1.1
      | false => exact a_last (sE c Z _ .now h.1.2 rfl) h.1.1
  | .cons c (.cons d r), z, X, Wx, Z, xs, b, h, hb, hn => by
    cases xs <;> first | (cases h; done) | skip
    rename_i x xs
    have h : (notStar x && mE z c x && mEs z (.cons d r) xs) = true := h
    simp only [Bool.and_eq_true] at h
    cases b with
    | true =>
      have q : (cap c && capEs (.cons d r)) = true := hb rfl
      rw [Bool.and_eq_true] at q
      exact a_cons (sE c Z _ .cap h.1.2 q.1) (sEs (.cons d r) Z xs true h.2 (fun _ => q.2) (fun q => nomatch q)) h.1.1
    | false =>
      have q : (nrd c && nrdEs (.cons d r)) = true := hn rfl
      rw [Bool.and_eq_true] at q
      exact a_cons (sE c Z _ .bor h.1.2 q.1) (sEs (.cons d r) Z xs false h.2 (fun q => nomatch q) (fun _ => q.2)) h.1.1
termination_by c => (sizeOf c, 0)
theorem sKs : ∀ (cs : Xps) {z : Sx} {X : Cx} {Wx : WX} (Z : Cz z X M G Wx) (xs : List Keyword), mKs z cs xs = true → capEs cs = true → PK X xs (tA G M Wx true cs)
  | .nil, z, X, Wx, Z, xs, h, hb => by
    cases xs <;> first | (cases h; done) | skip
    exact k_nil
  | .cons c r, z, X, Wx, Z, xs, h, hb => by
    cases xs <;> first | (cases h; done) | skip
    rename_i x xs
    obtain ⟨nm, x, kp⟩ := x
    cases nm <;> first | (cases h; done) | skip
    have h : (mE z c x && mKs z r xs) = true := h
    simp only [Bool.and_eq_true] at h
    have q : (cap c && capEs r) = true := hb
    simp only [Bool.and_eq_true] at q
    exact k_cons (sE c Z _ _ h.1 q.1) (sKs r Z xs h.2 q.2)
termination_by c => (sizeOf c, 0)
theorem sO : ∀ (c : Xpo) {z : Sx} {X : Cx} {Wx : WX} (Z : Cz z X M G Wx) (e : Option Expr), mO z c e = true → PO X e (tO G M Wx c)
  | .none, z, X, Wx, Z, e, h => by
    cases e <;> first | (cases h; done) | skip
    exact o_none
  | .some c, z, X, Wx, Z, e, h => by
    cases e <;> first | (cases h; done) | skip
    have h : mE z c _ = true := h
    exact o_some (sE c Z _ .now h rfl)
termination_by c => (sizeOf c, 0)
theorem sC : ∀ (c : Xpo) {z : Sx} {X : Cx} (Z : Cz z X M G WF) (es : List Expr), mC z c es = true → PTs X es (tC G M c)
  | .none, z, X, Z, es, h => by
    cases es <;> first | (cases h; done) | skip
    exact pts_nil
  | .some c, z, X, Z, es, h => by
    match es, h with
    | [x], h =>
      have h : mE z c x = true := h
      exact pts_one (sT c Z _ h)
    | [], h => cases h
    | _ :: _ :: _, h => cases h
termination_by c => (sizeOf c, 0)
theorem sI : ∀ (c : Iq) {z : Sx} {X : Cx} {Wx : WX} (Z : Cz z X M G Wx) (tg e : Expr), mI z c tg e = true → PI X tg e (tI G M Wx c)
  | .seq c, z, X, Wx, Z, tg, e, h => by
    have h : (mE z c e && cap c) = true := h
    simp only [Bool.and_eq_true] at h
    exact i_seq (sE c Z e .cap h.1 h.2)
  | .rng es, z, X, Wx, Z, tg, e, h => by
    cases e <;> first | (cases h; done) | skip
    rename_i fe xs kws p
    cases fe <;> first | (cases h; done) | skip
    rename_i x q
    match kws, h with
    | [], h =>
      have h : (x == "range" && glB z.sc x && mEs z es xs && nrdEs es && (xs.length == 1 || xs.length == 2 || xs.length == 3)) = true := h
      simp only [Bool.and_eq_true, beq_iff_eq] at h
      obtain ⟨⟨⟨⟨rfl, h1⟩, h2⟩, hn⟩, h3⟩ := h
      have ha := sEs es Z xs false h2 (fun z => nomatch z) (fun _ => hn)
      have hl := mEs_len h2
      match xs, h2, h3, ha, hl with
      | [x], h2, _, ha, hl => exact i_rng1 Z h1 ha (mEs_st h2 x (by simp)) hl
      | [x, y], h2, _, ha, hl => exact i_rng2 Z h1 ha (mEs_st h2 x (by simp)) (mEs_st h2 y (by simp)) hl
      | [x, y, w], h2, _, ha, hl => exact i_rng3 Z h1 ha (mEs_st h2 x (by simp)) (mEs_st h2 y (by simp)) (mEs_st h2 w (by simp)) hl
      | [], _, h3, _, _ => cases h3
      | _ :: _ :: _ :: _ :: _, _, h3, _, _ => simp at h3
    | _ :: _, h => cases h
  | .zip es, z, X, Wx, Z, tg, e, h => by
    cases e <;> first | (cases h; done) | skip
    rename_i fe xs kws p
    cases fe <;> first | (cases h; done) | skip
    rename_i x q
    match xs, kws, h with
    | [a, b], [], h =>
      have h : (x == "zip" && glB z.sc x && mEs z es [a, b] && capEs es && isTup tg) = true := h
      simp only [Bool.and_eq_true, beq_iff_eq] at h
      obtain ⟨⟨⟨⟨rfl, h1⟩, h2⟩, h3⟩, h4⟩ := h
      have ha := sEs es Z [a, b] true h2 (fun _ => h3) (fun q => nomatch q)
      cases tg <;> first | (cases h4; done) | skip
      match es, h2, ha with
      | .cons c (.cons d r), h2, ha =>
        have h2' : (notStar a && mE z c a && (notStar b && mE z d b && mEs z r [])) = true := h2
        simp only [Bool.and_eq_true] at h2'
        exact i_zip Z h1 ha h2'.1.1 h2'.2.1.1
      | .nil, h2, _ => cases h2
      | .cons c .nil, h2, _ =>
        have h2' : (notStar a && mE z c a && false) = true := h2
        rw [Bool.and_false] at h2'; cases h2'
    | [], _, h => cases h
    | [_], _, h => cases h
    | [_, _], _ :: _, h => cases h
    | _ :: _ :: _ :: _, _, h => cases h
  | .enm c, z, X, Wx, Z, tg, e, h => by
    cases e <;> first | (cases h; done) | skip
    rename_i fe xs kws p
    cases fe <;> first | (cases h; done) | skip
    rename_i x q
    match xs, kws, h with
    | [a], [], h =>
      have h : (x == "enumerate" && glB z.sc x && mE z c a && notStar a && cap c && isTup tg) = true := h
      simp only [Bool.and_eq_true, beq_iff_eq] at h
      obtain ⟨⟨⟨⟨⟨rfl, h1⟩, h2⟩, h3⟩, h4⟩, h5⟩ := h
      cases tg <;> first | (cases h5; done) | skip
      exact i_enm Z h1 (sE c Z a .cap h2 h4) h3
    | [], _, h => cases h
    | [_], _ :: _, h => cases h
    | _ :: _ :: _, _, h => cases h
  | .rvs c, z, X, Wx, Z, tg, e, h => by
    cases e <;> first | (cases h; done) | skip
    rename_i fe xs kws p
    cases fe <;> first | (cases h; done) | skip
    rename_i x q
    match xs, kws, h with
    | [a], [], h =>
      have h : (x == "reversed" && glB z.sc x && mE z c a && notStar a && cap c) = true := h
      simp only [Bool.and_eq_true, beq_iff_eq] at h
      obtain ⟨⟨⟨⟨rfl, h1⟩, h2⟩, h3⟩, h4⟩ := h
      exact i_rvs Z h1 (sE c Z a .cap h2 h4) h3
    | [], _, h => cases h
    | [_], _ :: _, h => cases h
    | _ :: _ :: _, _, h => cases h
termination_by c => (sizeOf c, 0)
end
end
end PV

/-! ## PV: try: .. except C as n: y = n -/
namespace PV
open PySem PySem.Spec PyProof.Rows L2

section
variable {X : Cx} {pins : List (Addr × Obj)} {σ : L2.St} {H : Hp} {sI s : Shared} {B : Heap}
/-- a thing that is new since the entry is told from now on -/
theorem Inv_track {a : Addr} {φ : Heap → Prop} (J0 : Inv X pins σ H sI) (nb : ∀ b o, sI.heap.get? b = some o → b ∉ frs X.stack → B.get? b = some o) (hB : B.get? a = none) (nS : a ∉ frs X.stack) (I : Inv X pins σ H s) (na : H a = none)
    (nL : a ≠ X.env.locals) (nF : a ∉ X.fs) (nC : ∀ y c, X.env.cells.lookup y = some c → c ≠ a) (new : ObjOk X.prog X.w (upd H a (.ext φ)) s.heap a (.ext φ)) : Inv X pins σ (upd H a (.ext φ)) s := by
  have old : ∀ b o, X.s_0.heap.get? b = some o → X.H_0 b = none → b ∉ X.ex → b ≠ a := fun b o e n hx hba => by
    subst hba
    have k := J0.base.keep b o e n nF hx
    rw [nb b o k nS] at hB
    cases hB
  have ne : ∀ b u, H b = some u → b ≠ a := fun b u e z => by rw [z, na] at e; cases e
  refine ⟨I.ok, I.os, I.bare, ⟨I.base.keep, I.base.slot, fun b o e n hx => ?_, I.base.there, fun b xs e => ?_, fun b o xs e => ?_, fun b ps e => ?_⟩, I.loc, I.cell, ?_, fun y c e => ?_, fun p hp => ?_, fun b u e => ?_, I.len⟩
  · rw [upd_ne (old b o e n hx)]
    exact I.base.free b o e n hx
  · have k := I.base.tups b xs e
    rw [upd_ne (ne b _ k)]
    exact k
  · have k := I.base.frzs b o xs e
    rw [upd_ne (ne b _ k)]
    exact k
  · obtain ⟨m, k⟩ := I.base.tbls b ps e
    exact ⟨m, by rw [upd_ne (ne b _ k)]; exact k⟩
  · rw [upd_ne (Ne.symm nL)]
    exact I.free
  · rw [upd_ne (nC y c e)]
    exact I.freeC y c e
  · obtain ⟨e, n, q1, q2, q3⟩ := I.pin p hp
    refine ⟨e, ?_, q1, q2, q3⟩
    have pa : p.1 ≠ a := fun z => by
      obtain ⟨e0, _, r1, r2, _⟩ := J0.pin p hp
      rw [z] at e0
      rw [nb a _ e0 nS] at hB
      cases hB
    rw [upd_ne pa]
    exact n
  · by_cases hb : b = a
    · subst hb
      rw [upd_same] at e
      cases e
      exact new
    · rw [upd_ne hb] at e
      exact (I.hok b u e).stay (fun c w _ k => k) (fun c k => by rw [upd_ne (ne c _ k)]; exact k) fun c xs k => by rw [upd_ne (ne c _ k)]; exact k
end
/-- what is wished of an exception of the body -/
def wK (K : PySem.W.Frag) (c : Value) (i j : Nat) (Wout : WX) (D : Ends) : WX := fun cls d σ H =>
  ∃ k, PySem.W.exmOne K cls c = some k ∧ (k = true → ∃ C dx, cls = .ref C ∧ d = some dx ∧ ∀ a, H a = none → D.nx (((σ.set j (some (.ref a))).set i (some (.ref a))).set j none) (upd H a (ExZ C dx a))) ∧ (k = false → Wout cls d σ H)
theorem ps_try_keep {X : Cx} {x n y : Str} {c : Value} {i j : Nat} {body : List Stmt} {np pos pos' py pw p2 : Pos} {tb : WX → TS} {Wout : WX} (hs : X.stack = X.env :: X.outer) (hf : X.env.frame = some X.env.locals) (hN : X.N.Nodup) (hj : X.N[j]? = some n) (hi : X.N[i]? = some y) (hln : X.env.kindOf n = some .local)
    (hly : Loc X.env.scope y) (hfy : X.fn y = true ∨ X.env.scope.names.lookup y = some .local) (hnn : (n == ("__debug__" : Str)) = false ∧ (n == ("__classdict__" : Str)) = false) (hc : Names X x c) (tk : Takes X Wout)
    (hb : ∀ (W : WX) (pn : List (Addr × Obj)) (xe : Value → Shared → Prop), Takes (X.tr pn xe) W → PassesOwn (model X.prog X.w) X.A X.env xe → PSs (X.tr pn xe) body (tb W)) :
    PS X (.Try body [.ExceptHandler (some (.Name x np)) (some n) [.Assign [.Name y py] (.Name n pw) p2] pos'] [] [] pos) (fun D σ H => tb (wK X.K c i j Wout D) D σ H) := by
  refine ⟨fun pins s σ H D I h => ?_⟩
  have ok := I.ok
  have fr0 : X.A.frames = some (X.env :: X.outer) := by rw [ok.frames, hs]
  refine wpAny_Try_except (wpAny_mono ((hb (wK X.K c i j Wout D) (X.pn ++ pins) (fun e s₁ => wpAny (model X.prog X.w) X.A (noteFrame e X.env) (fun _ s₂ => wpAny (model X.prog X.w) X.A (setFlight e none) (fun _ s₃ =>
    wpAny (model X.prog X.w) X.A (handleBy e X.env [.ExceptHandler (some (.Name x np)) (some n) [.Assign [.Name y py] (.Name n pw) p2] pos']) (SP X pins D) X.xe s₃) X.xe s₂) X.xe s₁) (fun u s' xx => ?_) PassesOwn.looking).run [] s σ H D (I.toTry _) h) (fun f s1 hsp => ?_) (fun e s1 he => he))
  · obtain ⟨a, B, sI, pins', σ', H', cls, d, rfl, J', nb, up, sky, na, os, ag, b, hb1, hyes, hno⟩ := xx
    have J0 : Inv X pins σ' H' sI := J'.ofTry ok
    rw [show (X.tr (X.pn ++ pins) _).stack = X.env :: X.outer from hs] at sky
    show wpAny (model X.prog X.w) X.A (noteFrame (.ref a) X.env) _ _ _
    refine Sky.land Zc.steady fr0 hf sky fun h3 fl3 up3 => ?_
    have J3 : Inv X pins σ' H' { s' with heap := h3 } := J0.landed nb fl3.1 (up.trans up3) os ag
    obtain ⟨oe3, vs3, he3, hz3, hd3⟩ := fl3.there
    have nfr : a ∉ frs (X.env :: X.outer) := fun hm => by
      obtain ⟨_, o', e', hnf⟩ := fl3.2.2.1.mem hm
      rw [he3] at e'
      cases e'
      exact hnf _ hd3
    have nL : a ≠ X.env.locals := fun z => nfr (List.mem_filterMap.mpr ⟨X.env, List.mem_cons_self, by rw [hf, z]⟩)
    have nF : a ∉ X.fs := fun hm => by
      obtain ⟨e, he, q⟩ := List.mem_filterMap.mp hm
      exact nfr (List.mem_filterMap.mpr ⟨e, List.mem_cons_of_mem _ he, q⟩)
    have S3 := J3.suite he3 hd3 na nL nF
    refine wpAny_handleBy_cons (codeAny_handlers_test ?_) (by intro q; cases q)
    have LT : PySem.W.Looks (model X.prog X.w) h3 (typeOf (.ref a)) cls := fun A Q E s k q => wpAny_typeOf_ref (k _ _ he3) (by rw [hz3.1]; exact q)
    have LM := PySem.W.exm_one (M := model X.prog X.w) (J3.kIn) LT hb1
    have test : ∀ {Q E : Value → Shared → Prop}, Q c { s' with heap := h3 } → wpAny (model X.prog X.w) (X.A.mark (some (.ref a))) (eval (.Name x np) X.env) Q E { s' with heap := h3 } := fun {Q E} q => by
      rcases hc with ⟨g1, g2, g3 | ⟨g3, g4, g5⟩⟩
      · exact ld_glob (X := X.suite a ((a, oe3) :: (X.pn ++ pins))) S3 g1 g3 q g2
      · exact ld_blt (X := X.suite a ((a, oe3) :: (X.pn ++ pins))) S3 g1 g3 g4 q g5 g2
    refine test (LM.here ?_)
    cases b with
    | false =>
      show wpAny _ X.A (handleBy (.ref a) X.env []) _ _ _
      refine wpAny_handleBy_nil ?_
      obtain ⟨k1, k2, k3, oe, vs, T, oT, ts', he, hz, hd, h1, hr⟩ := id fl3
      unfold PySem.passOn
      refine wpAny_bind (wpAny_field he hd h1 ?_)
      rw [if_neg (by intro z; cases beq_iff_eq.mp z : ¬ ((Value.ref T == Value.none) = true))]
      have fin : wpAny (model X.prog X.w) X.A (setFlight (.ref a) X.env.frame) (fun _ s4 => wpAny (model X.prog X.w) X.A (throw (.ref a) : Sem Flow) (SP X pins D) X.xe s4) X.xe { s' with heap := h3 } := by
        rw [hf]
        exact HandSPX.setFlight_upZ fl3 fun h4 hh4 up4 => wpAny_throw (tk _ _ ⟨a, B, sI, pins, σ', H', cls, d, rfl, J0, nb, (up.trans up3).trans up4, .inr (.inr (by rw [hs]; exact hh4)), na, os, ag, hno rfl⟩)
      first
        | exact wpAny_bind (wpAny_pure (wpAny_bind fin))
        | exact wpAny_bind fin
    | true =>
      obtain ⟨C, dx, rfl, rfl, hy⟩ := hyes rfl
      refine codeAny_handlers_suite_as (HandSPX.lands_againZ fl3 fun h4 fl4 up4 => ?_)
      have J4 : Inv X pins σ' H' { s' with heap := h4 } := J0.landed nb fl4.1 ((up.trans up3).trans up4) os ag
      obtain ⟨oe4, vs4, he4, hz4, hd4⟩ := fl4.there
      have J5 : Inv X pins σ' (upd H' a (ExZ C dx a)) { s' with heap := h4 } := Inv_track J0 nb fl4.2.1 (by rw [hs]; exact nfr) J4 na nL nF (fun y c e z => by
        subst z
        obtain ⟨v, o, e1, e2⟩ := J4.cell y c e
        rw [he4] at e1
        cases e1
        rw [hd4] at e2
        cases e2) ⟨⟨oe4, vs4, he4, hz4, hd4⟩, ⟨oe4, he4⟩, fun _ _ ⟨o, v, q, r⟩ k => ⟨o, v, k _ q, r⟩⟩
      have S5 : Inv (X.suite a (X.pn ++ pins)) [] σ' (upd H' a (ExZ C dx a)) { s' with heap := h4 } :=
        ⟨J5.ok.suite _ _, J5.os, J5.bare, J5.base, J5.loc, J5.cell, J5.free, J5.freeC, fun p hp => J5.pin p (by have hp' : p ∈ (X.pn ++ pins) ++ [] := hp; rw [List.append_nil] at hp'; exact hp'), J5.hok, J5.len⟩
      refine store_ok (X := X.suite a (X.pn ++ pins)) (v := .ref a) S5 hN hj (.inl hln) rfl (fun s5 S6 => ?_) (.inr hln)
      have P := pss_one (ps_set (X := X.suite a (X.pn ++ pins)) (pos := p2) (pos' := py) hN hi hly (pe_var (pos := pw) hj (.inl hln) hnn.1 hnn.2) rfl hfy)
      have hjl : j < σ'.length := by rw [J5.len]; exact (List.getElem?_eq_some_iff.mp hj).1
      refine wpAny_mono (P.run [] s5 _ _ { nx := fun σ6 H6 => D.nx (σ6.set j none) H6, rt := fun _ _ => False } S6 ⟨.ref a, List.getElem?_set_self hjl, hy a na⟩) (fun f s6 hsp => ?_) (fun _ _ z => False.elim z)
      cases f with
      | next =>
        obtain ⟨σ6, H6, S7, q6⟩ := hsp
        have S8 : Inv X pins σ6 H6 s6 := ⟨ok, S7.os, S7.bare, S7.base, S7.loc, S7.cell, S7.free, S7.freeC, fun p hp => S7.pin p (List.mem_append_left _ hp), S7.hok, S7.len⟩
        exact gone_ok S8 hN hj hln fun s7 J7 => ⟨_, _, J7, q6⟩
      | brk =>
        obtain ⟨_, _, _, q6⟩ := hsp
        exact q6.elim
      | cont =>
        obtain ⟨_, _, _, q6⟩ := hsp
        exact q6.elim
      | ret u =>
        obtain ⟨_, _, _, _, _, q6⟩ := hsp
        exact q6.elim
  · cases f with
    | next =>
      obtain ⟨σ', H', J', q⟩ := hsp
      exact wpAny_execs_nil ⟨σ', H', J'.ofTry ok, q⟩
    | brk =>
      obtain ⟨σ', H', J', q⟩ := hsp
      exact ⟨σ', H', J'.ofTry ok, q⟩
    | cont =>
      obtain ⟨σ', H', J', q⟩ := hsp
      exact ⟨σ', H', J'.ofTry ok, q⟩
    | ret u =>
      obtain ⟨v, σ', H', J', r, q⟩ := hsp
      exact ⟨v, σ', H', J'.ofTry ok, r, q⟩
end PV

/-! ## PV: statements -/
namespace PV
open PySem PySem.Spec PyProof.Rows L2

/-! ### from a base on -/
structure Bs (ags0 : List Addr) (W0 : Nat → Option Addr) (H0 : Hp) (ags : List Addr) (W : Nat → Option Addr) (H : Hp) : Prop where
  pre : ags0 <+: ags
  same : ∀ a o, a ∉ ags0 → (∀ i, W0 i ≠ some a) → H0 a = some o → H a = some o
  new : ∀ a ∈ ags, a ∈ ags0 ∨ H0 a = none
  wn : ∀ i a, W i = some a → (∃ j, W0 j = some a) ∨ H0 a = none
  dom : ∀ a, H0 a ≠ none → H a ≠ none
section
variable {M : Nm} {O : Adr} {ags0 ags ags' : List Addr} {W0 W W' : Nat → Option Addr} {H0 H H' : Hp} {σ : Sg} {S S' : List D} {σV : L2.St}
theorem Bs.refl : Bs ags W H ags W H := ⟨List.prefix_refl _, fun _ _ _ _ h => h, fun _ h => .inl h, fun i a h => .inl ⟨i, h⟩, fun _ h => h⟩
theorem Bs.trans (b : Bs ags0 W0 H0 ags W H) (c : Bs ags W H ags' W' H') : Bs ags0 W0 H0 ags' W' H' := by
  have up : ∀ a, H a = none → H0 a = none := fun a h => by
    cases e : H0 a with
    | none => rfl
    | some o => exact absurd h (b.dom a (by rw [e]; intro z; cases z))
  refine ⟨b.pre.trans c.pre, fun a o n w h => ?_, fun a ha => ?_, fun i a hw => ?_, fun a h => c.dom a (b.dom a h)⟩
  · refine c.same a o (fun z => ?_) (fun i z => ?_) (b.same a o n w h)
    · rcases b.new a z with z | z
      · exact n z
      · rw [h] at z; cases z
    · rcases b.wn i a z with ⟨j, z⟩ | z
      · exact w j z
      · rw [h] at z; cases z
  · rcases c.new a ha with z | z
    · exact b.new a z
    · exact .inr (up a z)
  · rcases c.wn i a hw with ⟨j, z⟩ | z
    · exact b.wn j a z
    · exact .inr (up a z)
theorem Bs.ext (b : Bs ags0 W0 H0 ags W H) (e : Ext ags H ags' H') (r : SR M O ags' W H' S') : Bs ags0 W0 H0 ags' W H' :=
  b.trans ⟨e.pre, fun a o n _ h => e.same a o n h, e.new, fun i a h => .inl ⟨i, h⟩, fun a h => e.dom r h⟩
theorem Bs.le (b : Bs ags0 W0 H0 ags W H) : Le ags0 (exs O ags0 W0) H0 ags (exs O ags W) H := by
  refine ⟨b.pre, fun a h z => ?_, fun a o n h => b.same a o (fun z => n (.inr (.inl z))) (fun i z => n (.inr (.inr ⟨i, z⟩))) h⟩
  rcases z with z | z | ⟨i, z⟩
  · exact .inl z
  · rcases b.new a z with z | z
    · exact .inr (.inl z)
    · exact absurd z h
  · rcases b.wn i a z with ⟨j, z⟩ | z
    · exact .inr (.inr ⟨j, z⟩)
    · exact absurd z h
/-- other own things -/
theorem SR.reW (r : SR M O ags W H S) (h : ∀ i a, W' i = some a → ¬ O a ∧ a ∉ ags ∧ Ob H a) : SR M O ags W' H S := by
  have tl : Tl ags H ags (exs O ags W') H := ⟨List.prefix_refl _, fun a vs k => ⟨k, fun z => by
    rcases z with z | z | ⟨i, z⟩
    · exact (r.oo a z).tup k
    · exact (r.aob z).tup k
    · exact (h i a z).2.2.tup k⟩⟩
  exact ⟨r.len, r.nd, fun n d a h1 h2 => OwnR.imm tl (r.fl d (List.mem_of_getElem? h1)) rfl (r.at_ n d a h1 h2), r.ap, fun i a hw => ⟨(h i a hw).1, (h i a hw).2.1, (h i a hw).2.2.ne⟩, r.on, fun i a hw => (h i a hw).2.2, r.oo, r.fl⟩
theorem Ob.upd {p : Addr} {o : HO} {a : Addr} (ho : Ob (L2.upd H p o) p) (h : Ob H a) : Ob (L2.upd H p o) a := by
  by_cases e : a = p
  · subst e; exact ho
  · exact h.eq (upd_ne e)
theorem Tl.upd {p : Addr} {o : HO} (r : SR M O ags W H S) (hp : Ob H p) : Tl ags H ags (exs O ags W) (L2.upd H p o) :=
  ⟨List.prefix_refl _, fun a vs h => ⟨by rw [upd_ne fun z => hp.tup (z ▸ h)]; exact h, fun z => (r.eob z).tup h⟩⟩
/-- an own thing written -/
theorem SR.putW (r : SR M O ags W H S) {p : Addr} {o : HO} (h1 : ¬ O p) (h2 : p ∉ ags) (hp : Ob H p) (ho : Ob (L2.upd H p o) p) : SR M O ags W (L2.upd H p o) S := by
  refine ⟨r.len, r.nd, fun n d a q1 q2 => ?_, r.ap, fun i a hw => ?_, fun a ha => ?_, fun i a hw => Ob.upd ho (r.wo i a hw), fun a ha => Ob.upd ho (r.oo a ha), r.fl⟩
  · have hm : a ∈ ags := List.mem_of_getElem? q2
    exact OwnR.imm (Tl.upd r hp) (r.fl d (List.mem_of_getElem? q1)) (upd_ne fun z => h2 (by rw [← z]; exact hm)) (r.at_ n d a q1 q2)
  · obtain ⟨k1, k2, k3⟩ := r.wn i a hw
    refine ⟨k1, k2, ?_⟩
    by_cases e : a = p
    · subst e; exact ho.ne
    · rw [upd_ne e]; exact k3
  · rw [upd_ne fun z => h1 (by rw [← z]; exact ha)]; exact r.on a ha
/-- a shared thing written -/
theorem SR.putA (r : SR M O ags W H S) {n : Nat} {d' : D} {q : Addr} {o : HO} (hn : n < S.length) (hq : ags[n]? = some q) (hd : obI d' = true) (own : OwnR M ags (exs O ags W) (L2.upd H q o) d' q) : SR M O ags W (L2.upd H q o) (S.set n d') := by
  have hm : q ∈ ags := List.mem_of_getElem? hq
  refine ⟨by rw [List.length_set]; exact r.len, r.nd, fun m e a k1 k2 => ?_, r.ap, fun j a hw => ?_, fun a ha => ?_, fun i a hw => Ob.upd own.ob (r.wo i a hw), fun a ha => Ob.upd own.ob (r.oo a ha), fun e he => ?_⟩
  · by_cases hmn : n = m
    · subst hmn
      rw [hq] at k2
      cases k2
      rw [List.getElem?_set_self hn] at k1
      cases k1
      exact own
    · rw [List.getElem?_set_ne hmn] at k1
      refine OwnR.imm (Tl.upd r (r.aob hm)) (r.fl e (List.mem_of_getElem? k1)) (upd_ne fun z => ?_) (r.at_ m e a k1 k2)
      subst z
      have i1 := (List.getElem?_eq_some_iff.mp hq).1
      exact hmn ((List.getElem?_inj i1 r.nd).mp (by rw [hq, k2]))
  · obtain ⟨k1, k2, k3⟩ := r.wn j a hw
    exact ⟨k1, k2, by rw [upd_ne fun z => k2 (by rw [z]; exact hm)]; exact k3⟩
  · rw [upd_ne fun z => r.ap q hm (by rw [← z]; exact ha)]; exact r.on a ha
  · rcases List.mem_or_eq_of_mem_set he with he | he
    · exact r.fl e he
    · rw [he]; exact hd
/-- the own things of a state, read with the slot i anew -/
theorem Sit.own' (s : Sit M O ags W σ S σV H) (i : Nat) {d : D} {p : Addr} (l : Le ags (exs O ags W) H ags' (exs O ags' W') H') (hW : ∀ j, j ≠ i → W' j = W j) (hi : W' i = some p) (hp : ∀ j, j ≠ i → W j ≠ some p)
    (hs : ∀ j a, j ≠ i → W j = some a → H' a = H a) (r : SR M O ags' W' H' S') (q : OwnR M ags' (exs O ags' W') H' d p) : Sit M O ags' W' (σ.set i (.own d)) S' (σV.set i (some (.ref p))) H' := by
  refine ⟨by rw [List.length_set, List.length_set]; exact s.len, fun j e hj => ?_, fun j e hj => ?_, fun j k a hj hk => ?_, r⟩
  · rw [List.getElem?_set] at hj
    by_cases hij : i = j
    · subst hij
      rw [if_pos rfl] at hj
      split at hj <;> cases hj
    · rw [if_neg hij] at hj
      obtain ⟨w, e1, q⟩ := s.val j e hj
      exact ⟨w, by rw [List.getElem?_set_ne hij]; exact e1, VR.le l _ _ q⟩
  · rw [List.getElem?_set] at hj
    by_cases hij : i = j
    · subst hij
      rw [if_pos rfl] at hj
      split at hj
      · rename_i hl
        cases hj
        exact ⟨p, hi, by rw [List.getElem?_set_self (by rw [s.len]; exact hl)], q⟩
      · cases hj
    · rw [if_neg hij] at hj
      obtain ⟨a, hw, e1, q⟩ := s.own j e hj
      exact ⟨a, by rw [hW j (Ne.symm hij)]; exact hw, by rw [List.getElem?_set_ne hij]; exact e1, OwnR.le l (hs j a (Ne.symm hij) hw) q⟩
  · by_cases e1 : j = i
    · subst e1
      by_cases e2 : k = j
      · exact e2.symm
      · rw [hi] at hj
        rw [hW k e2] at hk
        cases hj
        exact absurd hk (hp k e2)
    · by_cases e2 : k = i
      · subst e2
        rw [hi] at hk
        rw [hW j e1] at hj
        cases hk
        exact absurd hj (hp j e1)
      · rw [hW j e1] at hj
        rw [hW k e2] at hk
        exact s.inj j k a hj hk
end

/-! ### what is wanted behind a statement -/
def EndF (M : Nm) (O : Adr) (Wx : WX) (Dd : Ends) : Fl → L2.St → List Addr → (Nat → Option Addr) → Hp → Prop
  | .nx, σV, _, _, H => Dd.nx σV H
  | .bk, σV, _, _, H => Dd.bk σV H
  | .ct, σV, _, _, H => Dd.ct σV H
  | .rt d, _, ags, _, H => ∀ v, VR M ags (exs O ags fun _ => none) H d v → Dd.rt v H
  | .xc e, σV, ags, W, H => ∀ cls dx, XR M ags (exs O ags W) H e cls dx → Wx cls dx σV H
/-- a base -/
structure Ba where
  ags : List Addr
  W : Nat → Option Addr
  H : Hp
def SPost (M : Nm) (O : Adr) (Wx : WX) (Dd : Ends) (b : Ba) : R (Fl × Sg) → Prop
  | .ok (fl, σ) S => ∀ ags W σV H, Sit M O ags W σ S σV H → Bs b.ags b.W b.H ags W H → EndF M O Wx Dd fl σV ags W H
  | _ => False
def tS (G : PV.Env) (M : Nm) (Wx : WX) (s : Sm) : TS := fun Dd σV H => ∃ O b ags W σ S, Sit M O ags W σ S σV H ∧ Bs b.ags b.W b.H ags W H ∧ SPost M O Wx Dd b (exS G s σ S)
def tSs (G : PV.Env) (M : Nm) (Wx : WX) (s : Sms) : TS := fun Dd σV H => ∃ O b ags W σ S, Sit M O ags W σ S σV H ∧ Bs b.ags b.W b.H ags W H ∧ SPost M O Wx Dd b (exSs G s σ S)
section
variable {M : Nm} {O : Adr} {ags : List Addr} {W : Nat → Option Addr} {H : Hp} {σ : Sg} {S : List D} {σV : L2.St} {Wx : WX} {Dd : Ends} {b : Ba}
/-- behind the value of an expression -/
theorem SPost.gt {α : Type} {m : R α} {f : α → List D → R (Fl × Sg)} (sit : Sit M O ags W σ S σV H) (bs : Bs b.ags b.W b.H ags W H) (h : SPost M O Wx Dd b (m.gt σ f)) :
    Pst M O W Wx σV ags H m fun a S1 ags1 H1 => SPost M O Wx Dd b (f a S1) := by
  cases m with
  | ok a S1 => exact fun _ _ _ _ => h
  | exc e S1 => exact fun ags' H' cls dx e1 r1 x1 => h ags' W σV H' (sit.ext e1 r1) (bs.ext e1 r1) cls dx x1
  | stuck => exact h
theorem SPost.ok {fl : Fl} (sit : Sit M O ags W σ S σV H) (bs : Bs b.ags b.W b.H ags W H) (h : SPost M O Wx Dd b (.ok (fl, σ) S)) : EndF M O Wx Dd fl σV ags W H := h _ _ _ _ sit bs
/-- the end wished anew, from a later base -/
theorem SPost.base {D' : Ends} {b' : Ba} {r : R (Fl × Sg)} (hbb : Bs b.ags b.W b.H b'.ags b'.W b'.H) (h : match r with
    | .ok (.nx, σ) S => ∀ ags W σV H, Sit M O ags W σ S σV H → Bs b'.ags b'.W b'.H ags W H → D'.nx σV H
    | .ok (.bk, σ) S => ∀ ags W σV H, Sit M O ags W σ S σV H → Bs b'.ags b'.W b'.H ags W H → D'.bk σV H
    | .ok (.ct, σ) S => ∀ ags W σV H, Sit M O ags W σ S σV H → Bs b'.ags b'.W b'.H ags W H → D'.ct σV H
    | .ok (.rt d, σ) S => D'.rt = Dd.rt ∧ SPost M O Wx Dd b (.ok (.rt d, σ) S)
    | .ok (.xc e, σ) S => SPost M O Wx Dd b (.ok (.xc e, σ) S)
    | _ => False) : SPost M O Wx D' b' r := by
  cases r with
  | ok q S =>
    obtain ⟨fl, σ⟩ := q
    intro ags W σV H sit bs
    cases fl with
    | nx => exact h _ _ _ _ sit bs
    | bk => exact h _ _ _ _ sit bs
    | ct => exact h _ _ _ _ sit bs
    | rt d =>
      have q := h.2 _ _ _ _ sit (hbb.trans bs)
      intro v hv
      rw [h.1]
      exact q v hv
    | xc e => exact h _ _ _ _ sit (hbb.trans bs)
  | exc e S => exact h
  | stuck => exact h
end
end PV

/-! ## PV: the rules of statements -/
namespace PV
open PySem PySem.Spec PyProof.Rows L2

/-! ### matching -/
def notComp : Expr → Bool
  | .ListComp .. | .SetComp .. | .DictComp .. => false
  | _ => true
/-- the stores of this assignment are not swapped -/
def notLoc (sc : Scope) (line : Nat) : Expr → Bool
  | .Name id pos => !(sc.names.lookup id == some .local && pos.line == line)
  | _ => true
def strB (sc : Scope) : Expr → Expr → Bool
  | .Tuple ts _ _, .Tuple vs _ _ => vs.all (foldedForSure 8) || ts.any (notLoc sc ((ts.head?.map (·.pos.line)).getD 0))
  | .List .., _ => false
  | _, _ => true
/-- name = [..]: stored at once -/
def lcB (sc : Scope) (y : Str) (py : Pos) : Expr → Bool
  | .ListComp _ _ scope pos => sc.kind == .function && sc.names.lookup y == some .local && py.line == pos.line && !(scope.names.any fun (n, k) => n == y && (k == .local || k == .cell))
  | _ => false
def lcN (sc : Scope) (v : Expr) : Expr → Bool
  | .Name y py => lcB sc y py v
  | _ => false
def isLc : Xp → Bool
  | .lc .. => true
  | .lcR .. => true
  | _ => false
def locN (z : Sx) (i : Nat) (x : Str) : Bool := z.N[i]? == some x && z.sc.names.lookup x == some .local
mutual
def mS (z : Sx) : Sm → Stmt → Bool
  | .asg t e, .Assign [tg] v _ => mT z t tg && mE z e v && cap e && ((notComp v && strB z.sc tg v) || (isLc e && lcN z.sc v tg))
  | .asgO i e, .Assign [.Name x px] v _ => z.N[i]? == some x && locB z x && mE z e v && frsh e && (notComp v || (isLc e && lcB z.sc x px v))
  | .par [i, j] es, .Assign [.Tuple [.Name x px, .Name y py] kt pt] (.Tuple [a, b] _ _) _ => locN z i x && locN z j y && i != j && mEs z es [a, b] && capEs es && px.line == py.line && z.sc.kind == .function &&
      !([a, b].all (foldedForSure 8)) && !([a, b].all (constantsAlone 8))
  | .parO i j c d, .Assign [.Tuple [.Name x px, .Name y py] kt pt] (.Tuple [a, b] ka pa) _ => i != j && mE z c a && mE z d b && cap c && frsh d && notStar a && notStar b &&
      ((locN z i x && locN z j y && px.line == py.line && z.sc.kind == .function && !([a, b].all (foldedForSure 8)) && !([a, b].all (constantsAlone 8))) ||
        (z.N[i]? == some x && locB z x && z.N[j]? == some y && locB z y && strB z.sc (.Tuple [.Name x px, .Name y py] kt pt) (.Tuple [a, b] ka pa)))
  | .parP i j c d, .Assign [.Tuple [.Name x px, .Name y py] kt pt] (.Tuple [a, b] ka pa) _ => i != j && mE z c a && mE z d b && frsh c && cap d && notStar a && notStar b &&
      ((locN z i x && locN z j y && px.line == py.line && z.sc.kind == .function && !([a, b].all (foldedForSure 8)) && !([a, b].all (constantsAlone 8))) ||
        (z.N[i]? == some x && locB z x && z.N[j]? == some y && locB z y && strB z.sc (.Tuple [.Name x px, .Name y py] kt pt) (.Tuple [a, b] ka pa)))
  | .par [i, j, l] es, .Assign [.Tuple [.Name x px, .Name y py, .Name w pw] kt pt] (.Tuple [a, b, c] _ _) _ => locN z i x && locN z j y && locN z l w && i != j && i != l && j != l && mEs z es [a, b, c] && capEs es && px.line == py.line && px.line == pw.line && z.sc.kind == .function &&
      !([a, b, c].all (foldedForSure 8)) && !([a, b, c].all (constantsAlone 8))
  | .aug i e, .AugAssign (.Name x _) .Add v _ => z.N[i]? == some x && locB z x && mE z e v
  | .asb i e, .AugAssign (.Name x _) .Sub v _ => z.N[i]? == some x && locB z x && mE z e v
  | .ext i e, .Expr (.Call (.Attribute (.Name x _) name ap) [v] [] p) _ => name == "extend" && z.N[i]? == some x && visB z.sc x && nmOk x && ap.endLine == p.line && notStar v && mE z e v && cap e
  | .ins i k e, .Expr (.Call (.Attribute (.Name x _) name ap) [u, v] [] p) _ => name == "insert" && z.N[i]? == some x && visB z.sc x && nmOk x && ap.endLine == p.line && notStar u && notStar v && mE z k u && mE z e v && cap k && cap e
  | .putO i k e, .Assign [.Subscript (.Name x _) j _] v _ => z.N[i]? == some x && visB z.sc x && nmOk x && mE z k j && mE z e v && cap e && notSlice j && notComp v
  | .appR a e, .Expr (.Call (.Attribute o name ap) [v] [] p) _ => name == "append" && mE z a o && nrd a && baseB o && ap.endLine == p.line && notStar v && mE z e v && cap e
  | .popO j i, .Assign [.Name y py] (.Call (.Attribute (.Name x _) name ap) [] [] p) _ => name == "pop" && z.N[i]? == some x && visB z.sc x && nmOk x && ap.endLine == p.line && z.N[j]? == some y && locB z y && i != j
  | .exp e, .Expr v _ => mE z e v && notComp v
  | .app i e, .Expr (.Call (.Attribute (.Name x _) name ap) [v] [] p) _ => name == "append" && z.N[i]? == some x && visB z.sc x && nmOk x && ap.endLine == p.line && notStar v && mE z e v && cap e
  | .putR a k e, .Assign [.Subscript o i _] v _ => nrd a && mE z a o && mE z k i && mE z e v && cap e && notSlice i && notComp v
  | .newR i e, .Assign [.Name x px] v _ => z.N[i]? == some x && locB z x && mE z e v && frsh e && notComp v
  | .ife c a b, .If t x y _ => mE z c t && mSs z a x && mSs z b y
  | .for_ t it b, .For tg iter body [] _ => mT z t tg && mI z it tg iter && notSet iter && mSs z b body
  | .whl c b, .While t body [] _ => mE z c t && mSs z b body
  | .ret e, .Return (some v) _ => mE z e v && nrd e
  | .retR e, .Return (some v) _ => mE z e v && frsh e
  | .retN, .Return none _ => true
  | .brk, .Break _ => true
  | .cnt, .Continue _ => true
  | .pas, .Pass _ => true
  | .never, _ => true
  | .rse c e, .Raise (some (.Call (.Name x _) [v] [] _)) none _ => z.CN[c]? == some x && glB z.sc x && nmOk x && mE z e v && cap e && notStar v && c != 0
  | .tryA b c i j, .Try body [.ExceptHandler (some (.Name x _)) (some n) [.Assign [.Name y _] (.Name w _) _] _] [] [] _ => mSs z b body && z.CN[c]? == some x && glB z.sc x && nmOk x && w == n && i != j && z.N[i]? == some y && locB z y && z.N[j]? == some n && z.sc.names.lookup n == some .local && nmOk n
  | .appP i j e, .Expr (.Call (.Attribute (.Name x _) name ap) [.Call (.Attribute (.Name y _) name2 ap2) [v] [] p2] [] p) _ => name == "append" && name2 == "pop" && i != j && z.N[i]? == some x && visB z.sc x && nmOk x && z.N[j]? == some y && visB z.sc y && nmOk y && ap.endLine == p.line && ap2.endLine == p2.line && notStar v && mE z e v
  | .parQ i j c d, .Assign [.Tuple [.Name x px, .Name y py] kt pt] (.Tuple [a, b] ka pa) _ => i != j && mE z c a && mE z d b && frsh c && frsh d && notStar a && notStar b &&
      ((locN z i x && locN z j y && px.line == py.line && z.sc.kind == .function && !([a, b].all (foldedForSure 8)) && !([a, b].all (constantsAlone 8))) ||
        (z.N[i]? == some x && locB z x && z.N[j]? == some y && locB z y && strB z.sc (.Tuple [.Name x px, .Name y py] kt pt) (.Tuple [a, b] ka pa)))
  | .popK j i e, .Assign [.Name y py] (.Call (.Attribute (.Name x _) name ap) [v] [] p) _ => name == "pop" && z.N[i]? == some x && visB z.sc x && nmOk x && ap.endLine == p.line && z.N[j]? == some y && locB z y && i != j && notStar v && mE z e v
  | _, _ => false
def mSs (z : Sx) : Sms → List Stmt → Bool
  | .cons (.frz _) r, xs => mSs z r xs
  | .cons s r, x :: xs => mS z s x && mSs z r xs
  | .nil, [] => true
  | _, _ => false
end

/-- what it takes to make an exception of the package -/
structure ClsIni (P : Program) (w : World) (K : PySem.W.Frag) (mg : Str → Option Value) (base : Heap) (CN : List Str) : Prop where
  ex : ∃ (D fI : Addr) (fd : FuncData), FnOk P w K mg base (L2.CX P w) 1 fI fd ["self", "value"] (spInit K D) ∧ Binds K fd ["self", "value"] [] ∧
    ∀ c x, CN[c]? = some x → c ≠ 0 → ∃ C, mg x = some (.ref C) ∧ ClsI K D C ∧ PySem.W.findIn K (.ref C) "__init__" = some (some (.ref fI)) ∧ PySem.W.typeIn K (.ref fI) = some (.type "function")
structure Cs (z : Sx) (X : Cx) (M : Nm) (G : PV.Env) (Wx : WX) : Prop where
  cz : Cz z X M G Wx
  ini : z.CN ≠ [] → ClsIni X.prog X.w X.K X.mg X.base z.CN ∧ Room 2 X.A
  stk : X.stack = X.env :: X.outer
  frm : X.env.frame = some X.env.locals
  po : PassesOwn (model X.prog X.w) X.A X.env X.xe
section
variable {X : Cx} {M : Nm} {G : PV.Env} {Wx : WX} {z : Sx} {pos p : Pos} {a b c e v tg : Expr} {ca cb cc ce : Xp} {ces : Xps} {x y : Str}
theorem swF {l : Nat} {t : Option Expr} {env : PySem.Env} (h : notComp v = true) : swapsWith v t l env = pure false := by
  cases v <;> first | rfl | cases h
theorem fm_lt {α β : Type} {f : α → Option β} : ∀ {xs : List α}, (∃ x ∈ xs, f x = none) → (xs.filterMap f).length < xs.length
  | [], h => by obtain ⟨x, hx, _⟩ := h; cases hx
  | x :: r, h => by
    obtain ⟨y, hy, e⟩ := h
    rw [List.filterMap_cons]
    rcases List.mem_cons.mp hy with rfl | hy
    · rw [e]
      have := List.length_filterMap_le f r
      show (r.filterMap f).length < r.length + 1
      omega
    · have ih := fm_lt (f := f) ⟨y, hy, e⟩
      cases hx : f x with
      | none => show (r.filterMap f).length < r.length + 1; omega
      | some z => show (r.filterMap f).length + 1 < r.length + 1; omega
theorem swN {sc : Scope} {env : PySem.Env} (he : env.scope = sc) (h : strB sc tg v = true) : swappedStores [tg] v env = pure none := by
  subst he
  have cell : ∀ ts vs, ts.any (notLoc env.scope ((ts.head?.map (·.pos.line)).getD 0)) = true → ∀ (p1 p2 : Pos) (k1 k2 : Nat), swappedStores [.Tuple ts k1 p1] (.Tuple vs k2 p2) env = pure none := by
    intro ts vs hv p1 p2 k1 k2
    unfold swappedStores
    simp only [pure_bind]
    split
    · rfl
    · split
      · rfl
      · split
        · rfl
        · rename_i hn
          exfalso
          apply hn
          rw [Bool.or_eq_true]
          left
          rw [bne_iff_ne]
          refine Nat.ne_of_lt (fm_lt ?_)
          obtain ⟨x, hx, hh⟩ := List.any_eq_true.mp hv
          refine ⟨x, hx, ?_⟩
          cases x <;> first | rfl | skip
          rename_i id pos
          have hh : (!(env.scope.names.lookup id == some .local && pos.line == ((ts.head?.map (·.pos.line)).getD 0))) = true := hh
          rw [Bool.not_eq_true'] at hh
          show (if (env.kindOf id == some .local && pos.line == _) = true then some id else none) = none
          rw [if_neg]
          show ¬ ((env.scope.names.lookup id == some .local && pos.line == ((ts.head?.map (·.pos.line)).getD 0)) = true)
          rw [hh]
          exact Bool.false_ne_true
  have fold : ∀ ts vs, vs.all (foldedForSure 8) = true → ∀ (p1 p2 : Pos) (k1 k2 : Nat), swappedStores [.Tuple ts k1 p1] (.Tuple vs k2 p2) env = pure none := by
    intro ts vs hv p1 p2 k1 k2
    unfold swappedStores
    simp only [pure_bind]
    split
    · rfl
    · split
      · rfl
      · split
        · rfl
        · first | rfl | (rw [if_pos hv]; rfl)
  cases tg <;> first | rfl | (cases h; done) | skip
  cases v <;> first | rfl | skip
  have h : (_ || _) = true := h
  rcases Bool.or_eq_true_iff.mp h with h | h
  · exact fold _ _ h _ _ _ _
  · exact cell _ _ h _ _ _ _
theorem s_asg {t : Tg} (Z : Cz z X M G Wx) (hc : cap ce = true) (hn : notComp v = true) (hs : strB z.sc tg v = true) (hst : notStar tg = true) (he : PE X v (tE G M Wx .cap ce)) (hg : PG X tg (tG M t)) : PS X (.Assign [tg] v pos) (tS G M Wx (.asg t ce)) := by
  refine PS.imp (ps_asg he hg (swF hn) (swN Z.env hs) (by rw [asg_of hst]; rfl)) fun Dd σV H h => ?_
  obtain ⟨O, b, ags, W, σ, S, sit, bs, h⟩ := h
  simp only [exS] at h
  refine ⟨O, ags, W, σ, S, sit, (SPost.gt sit bs h).imp fun d S1 ags1 H1 e1 r1 h1 u ru => ?_⟩
  split at h1
  · rename_i σ1 hset
    exact ⟨O, ags1, W, σ, S1, d, σ1, sit.ext e1 r1, ru, hset, fun σV' sit' _ => SPost.ok sit' (bs.ext e1 r1) h1⟩
  · exact h1.elim
theorem s_name {i : Nat} {m : Mo} {px : Pos} (Z : Cz z X M G Wx) (hi : z.N[i]? = some x) (hl : locB z x = true) (hm : mE z ce v = true) (hk : okMo m ce = true) (hv : (notComp v || (isLc ce && lcB z.sc x px v)) = true) : PS X (.Assign [.Name x px] v pos) (tAsg (tE G M Wx m ce) (gName i)) := by
  obtain ⟨h1, h2⟩ := locB_of hl Z.env Z.fnb
  rcases Bool.or_eq_true_iff.mp hv with hn | hn
  · exact ps_set Z.nd (by rw [Z.N]; exact hi) h1 (sE ce Z v m hm hk) (swF hn) h2
  · have hlc : isLc ce = true := (Bool.and_eq_true_iff.mp hn).1
    replace hn := (Bool.and_eq_true_iff.mp hn).2
    cases v <;> first | (cases hn; done) | skip
    rename_i el gs scope p
    have hn : (z.sc.kind == .function && z.sc.names.lookup x == some .local && px.line == p.line && !(scope.names.any fun (n, k) => n == x && (k == .local || k == .cell))) = true := hn
    simp only [Bool.and_eq_true, Bool.not_eq_true', beq_iff_eq] at hn
    obtain ⟨⟨⟨n1, n2⟩, n3⟩, n4⟩ := hn
    have n3 : (px.line == p.line) = true := by simpa using n3
    cases ce <;> first | (cases hlc; done) | (cases hm; done) | skip
    · rename_i ce own t it cc
      match gs, hm with
      | [⟨tg, iter, ifs, n⟩], hm =>
        have h : (n == 0 && blkB z.N z.sc scope own && notSet iter && mI z it tg iter && (tgS t).all own.contains && mT { z with sc := relS scope z.sc, raw := some scope } t tg && mC { z with sc := relS scope z.sc, raw := some scope } cc ifs &&
          mE { z with sc := relS scope z.sc, raw := some scope } ce el && cap ce) = true := hm
        simp only [Bool.and_eq_true, beq_iff_eq] at h
        obtain ⟨⟨⟨⟨⟨⟨⟨⟨rfl, h1⟩, h2⟩, h3⟩, h4⟩, h5⟩, h6⟩, h7⟩, h8⟩ := h
        refine e_setLc Z h1 h2 (sI it Z tg iter h3) h4 (fun s H C cl fp => ?_) (fun s H C cl fp => ?_) (fun s H C cl fp => ?_) n1 hi n2 n3 n4
        · have Zb := Z.blk s H C cl fp scope
          exact sG Zb.calm Zb.nd Zb.N Zb.env Zb.fnb t tg h5
        · exact sC cc (Z.blk s H C cl fp scope) ifs h6
        · exact sE ce (Z.blk s H C cl fp scope) el .cap h7 h8
      | [], h => cases h
      | ⟨_, _, _, _⟩ :: ⟨_, _, _, _⟩ :: _, h => cases h
    · rename_i ce own t ca cc
      match gs, hm with
      | [⟨tg, iter, ifs, n⟩], hm =>
        have h : (n == 0 && blkB z.N z.sc scope own && notSet iter && (mE z ca iter && cap ca) && (tgS t).all own.contains && mT { z with sc := relS scope z.sc, raw := some scope } t tg && mC { z with sc := relS scope z.sc, raw := some scope } cc ifs &&
          mE { z with sc := relS scope z.sc, raw := some scope } ce el && cap ce) = true := hm
        simp only [Bool.and_eq_true, beq_iff_eq] at h
        obtain ⟨⟨⟨⟨⟨⟨⟨⟨rfl, h1⟩, h2⟩, h3, h3'⟩, h4⟩, h5⟩, h6⟩, h7⟩, h8⟩ := h
        refine e_setLcR Z h1 h2 (sE ca Z iter .cap h3 h3') h4 (fun s H C cl fp => ?_) (fun s H C cl fp => ?_) (fun s H C cl fp => ?_) n1 hi n2 n3 n4
        · have Zb := Z.blk s H C cl fp scope
          exact sG Zb.calm Zb.nd Zb.N Zb.env Zb.fnb t tg h5
        · exact sC cc (Z.blk s H C cl fp scope) ifs h6
        · exact sE ce (Z.blk s H C cl fp scope) el .cap h7 h8
      | [], h => cases h
      | ⟨_, _, _, _⟩ :: ⟨_, _, _, _⟩ :: _, h => cases h
theorem f_asg {i : Nat} {st : Stmt} (h : PS X st (tAsg (tE G M Wx .cap ce) (gName i))) : PS X st (tS G M Wx (.asg (.nm i) ce)) := by
  refine PS.imp h fun Dd σV H h => ?_
  obtain ⟨O, b, ags, W, σ, S, sit, bs, h⟩ := h
  simp only [exS] at h
  refine ⟨O, ags, W, σ, S, sit, (SPost.gt sit bs h).imp fun d S1 ags1 H1 e1 r1 h1 u ru => ?_⟩
  have h1 : SPost M O Wx Dd b (.ok (.nx, σ.set i (.val d)) S1) := h1
  exact SPost.ok ((sit.ext e1 r1).set i ru) (bs.ext e1 r1) h1
/-- a new list or dict, this frame's own -/
theorem own_sit {i : Nat} {O : Adr} {ags ags1 : List Addr} {W : Nat → Option Addr} {σ : Sg} {S S1 : List D} {σV : L2.St} {H H1 : Hp} {d : D} {u : V} (sit : Sit M O ags W σ S σV H) (e1 : Ext ags H ags1 H1) (r1 : SR M O ags1 W H1 S1)
    (hd : isOb d = true) (ru : RelF M O H ags1 W H1 d u) : ∃ W', Sit M O ags1 W' (σ.set i (.own d)) S1 (σV.set i (some u)) H1 ∧ Bs ags W H ags1 W' H1 ∧ ∀ k a, W' k = some a → W k = some a ∨ u = .ref a := by
  rcases ru with ⟨hno, _⟩ | ⟨q, rfl, hq, nq, own⟩
  · rw [hno] at hd; cases hd
  · let W' : Nat → Option Addr := fun j => if j = i then some q else W j
    have hWi : W' i = some q := if_pos rfl
    have hWj : ∀ j, j ≠ i → W' j = W j := fun j hj => if_neg hj
    have nq' : ¬ O q ∧ q ∉ ags1 ∧ ∀ j, W j ≠ some q := ⟨fun z => nq (.inl z), fun z => nq (.inr (.inl z)), fun j z => nq (.inr (.inr ⟨j, z⟩))⟩
    have r' : SR M O ags1 W' H1 S1 := r1.reW fun j a hw => by
      by_cases hj : j = i
      · subst hj
        rw [hWi] at hw
        cases hw
        exact ⟨nq'.1, nq'.2.1, own.ob⟩
      · rw [hWj j hj] at hw
        exact ⟨(r1.wn j a hw).1, (r1.wn j a hw).2.1, r1.wo j a hw⟩
    have l : Le ags (exs O ags W) H ags1 (exs O ags1 W') H1 := by
      refine ⟨e1.pre, fun a ha q' => ?_, fun a o n h => e1.same a o (fun z => n (.inr (.inl z))) h⟩
      rcases q' with q' | q' | ⟨j, q'⟩
      · exact .inl q'
      · rcases e1.new a q' with z | z
        · exact .inr (.inl z)
        · exact absurd z ha
      · by_cases hj : j = i
        · subst hj
          rw [hWi] at q'
          cases q'
          exact absurd hq ha
        · rw [hWj j hj] at q'
          exact .inr (.inr ⟨j, q'⟩)
    have own' : OwnR M ags1 (exs O ags1 W') H1 d q := by
      refine OwnR.le ⟨List.prefix_refl _, fun a _ q' => ?_, fun a o _ h => h⟩ rfl own
      rcases q' with q' | q' | ⟨j, q'⟩
      · exact .inl (.inl q')
      · exact .inl (.inr (.inl q'))
      · by_cases hj : j = i
        · subst hj
          rw [hWi] at q'
          cases q'
          exact .inr rfl
        · rw [hWj j hj] at q'
          exact .inl (.inr (.inr ⟨j, q'⟩))
    have sit' := sit.own' (W' := W') i l hWj hWi (fun j _ => nq'.2.2 j) (fun j a _ hw => by
      obtain ⟨o, ho⟩ := Option.ne_none_iff_exists'.mp (sit.sto.wn j a hw).2.2
      rw [ho]
      exact e1.same a o (sit.sto.wn j a hw).2.1 ho) r' own'
    refine ⟨W', sit', ⟨e1.pre, fun a o n _ h => e1.same a o n h, e1.new, fun j a hw => ?_, fun a h => e1.dom r1 h⟩, fun k a hw => ?_⟩
    rotate_left
    · by_cases hk : k = i
      · subst hk
        rw [hWi] at hw
        cases hw
        exact .inr rfl
      · rw [hWj k hk] at hw
        exact .inl hw
    by_cases hj : j = i
    · subst hj
      rw [hWi] at hw
      cases hw
      exact .inr hq
    · rw [hWj j hj] at hw
      exact .inl ⟨j, hw⟩
theorem own_step {i : Nat} {O : Adr} {b : Ba} {ags ags1 : List Addr} {W : Nat → Option Addr} {σ : Sg} {S S1 : List D} {σV : L2.St} {H H1 : Hp} {d : D} {u : V} {Dd : Ends} (sit : Sit M O ags W σ S σV H) (bs : Bs b.ags b.W b.H ags W H) (e1 : Ext ags H ags1 H1) (r1 : SR M O ags1 W H1 S1)
    (h1 : SPost M O Wx Dd b (if isOb d = true then .ok (.nx, σ.set i (.own d)) S1 else .stuck)) (ru : RelF M O H ags1 W H1 d u) : Dd.nx (σV.set i (some u)) H1 := by
  split at h1
  · rename_i hd
    obtain ⟨W', sit', bs', _⟩ := own_sit (i := i) sit e1 r1 hd ru
    exact SPost.ok sit' (bs.trans bs') h1
  · exact h1.elim
theorem f_asgO {i : Nat} {st : Stmt} (h : PS X st (tAsg (tE G M Wx .frs ce) (gName i))) : PS X st (tS G M Wx (.asgO i ce)) := by
  refine PS.imp h fun Dd σV H h => ?_
  obtain ⟨O, b, ags, W, σ, S, sit, bs, h⟩ := h
  simp only [exS] at h
  exact ⟨O, ags, W, σ, S, sit, (SPost.gt sit bs h).imp fun d S1 ags1 H1 e1 r1 h1 u ru => own_step sit bs e1 r1 h1 ru⟩
/-- a new shared object -/
theorem new_step {O : Adr} {b : Ba} {ags ags1 : List Addr} {W : Nat → Option Addr} {σ : Sg} {S S1 : List D} {σV : L2.St} {H H1 : Hp} {d : D} {u : V} (sit : Sit M O ags W σ S σV H) (bs : Bs b.ags b.W b.H ags W H) (e1 : Ext ags H ags1 H1) (r1 : SR M O ags1 W H1 S1) (hd : obI d = true) (ru : RelF M O H ags1 W H1 d u) :
    ∃ q, u = .ref q ∧ Sit M O (ags1 ++ [q]) W σ (S1 ++ [d]) σV H1 ∧ Bs b.ags b.W b.H (ags1 ++ [q]) W H1 ∧ (ags1 ++ [q])[S1.length]? = some q := by
  rcases ru with ⟨hno, _⟩ | ⟨q, rfl, hq, nq, own⟩
  · cases d <;> first | (cases hd; done) | (cases hno; done)
  · have nq' : ¬ O q ∧ q ∉ ags1 ∧ ∀ j, W j ≠ some q := ⟨fun z => nq (.inl z), fun z => nq (.inr (.inl z)), fun j z => nq (.inr (.inr ⟨j, z⟩))⟩
    have pre : ags <+: ags1 ++ [q] := e1.pre.trans (List.prefix_append _ _)
    have l : Le ags (exs O ags W) H (ags1 ++ [q]) (exs O (ags1 ++ [q]) W) H1 := by
      refine ⟨pre, fun a ha q' => ?_, fun a o n h => e1.same a o (fun z => n (.inr (.inl z))) h⟩
      rcases q' with q' | q' | q'
      · exact .inl q'
      · rcases List.mem_append.mp q' with q' | q'
        · rcases e1.new a q' with z | z
          · exact .inr (.inl z)
          · exact absurd z ha
        · cases List.mem_singleton.mp q'
          exact absurd hq ha
      · exact .inr (.inr q')
    have r' : SR M O (ags1 ++ [q]) W H1 (S1 ++ [d]) := r1.pub hd nq own
    have sit' := sit.extL l (fun j a hw => by
      obtain ⟨o, ho⟩ := Option.ne_none_iff_exists'.mp (sit.sto.wn j a hw).2.2
      rw [ho]
      exact e1.same a o (sit.sto.wn j a hw).2.1 ho) r'
    refine ⟨q, rfl, sit', ?_, by rw [← r1.len, List.getElem?_append_right (Nat.le_refl _), Nat.sub_self]; rfl⟩
    refine bs.trans ⟨pre, fun a o n _ h => e1.same a o n h, fun a ha => ?_, fun j a hw => .inl ⟨j, hw⟩, fun a h => e1.dom r1 h⟩
    rcases List.mem_append.mp ha with ha | ha
    · exact e1.new a ha
    · cases List.mem_singleton.mp ha; exact .inr hq
theorem f_newR {i : Nat} {st : Stmt} (h : PS X st (tAsg (tE G M Wx .frs ce) (gName i))) : PS X st (tS G M Wx (.newR i ce)) := by
  refine PS.imp h fun Dd σV H h => ?_
  obtain ⟨O, b, ags, W, σ, S, sit, bs, h⟩ := h
  simp only [exS] at h
  refine ⟨O, ags, W, σ, S, sit, (SPost.gt sit bs h).imp fun d S1 ags1 H1 e1 r1 h1 u ru => ?_⟩
  show Dd.nx (σV.set i (some u)) H1
  split at h1
  · rename_i hd
    obtain ⟨q, rfl, sit', bs', hq⟩ := new_step sit bs e1 r1 hd ru
    exact SPost.ok (sit'.set i (d := .ref S1.length) ⟨q, hq, rfl⟩) bs' h1
  · exact h1.elim
theorem f_retR (he : PE X v (tE G M Wx .frs ce)) : PS X (.Return (some v) pos) (tS G M Wx (.retR ce)) := by
  refine PS.imp (ps_ret he) fun Dd σV H h => ?_
  obtain ⟨O, b, ags, W, σ, S, sit, bs, h⟩ := h
  simp only [exS] at h
  refine ⟨O, ags, W, σ, S, sit, (SPost.gt sit bs h).imp fun d S1 ags1 H1 e1 r1 h1 u ru => ?_⟩
  split at h1
  · rename_i hd
    obtain ⟨q, rfl, sit', bs', hq⟩ := new_step sit bs e1 r1 hd ru
    exact SPost.ok sit' bs' h1 _ ⟨q, hq, rfl⟩
  · exact h1.elim
/-! small ones -/
theorem f_exp {m : Mo} (Z : Cz z X M G Wx) (hn : notComp v = true) (he : PE X v (tE G M Wx m ce)) : PS X (.Expr v pos) (tS G M Wx (.exp ce)) := by
  refine PS.imp (ps_expr he (swF hn)) fun Dd σV H h => ?_
  obtain ⟨O, b, ags, W, σ, S, sit, bs, h⟩ := h
  simp only [exS] at h
  exact ⟨O, ags, W, σ, S, sit, (SPost.gt sit bs h).imp fun d S1 ags1 H1 e1 r1 h1 u ru => SPost.ok (sit.ext e1 r1) (bs.ext e1 r1) h1⟩
theorem f_ret (he : PE X v (tE G M Wx .bor ce)) : PS X (.Return (some v) pos) (tS G M Wx (.ret ce)) := by
  refine PS.imp (ps_ret he) fun Dd σV H h => ?_
  obtain ⟨O, b, ags, W, σ, S, sit, bs, h⟩ := h
  simp only [exS] at h
  refine ⟨O, ags, W, σ, S, sit, (SPost.gt sit bs h).imp fun d S1 ags1 H1 e1 r1 h1 u ru => ?_⟩
  have q := SPost.ok (sit.ext e1 r1) (bs.ext e1 r1) h1
  refine q u ?_
  have sub : ∀ a, exs O ags1 (fun _ => none) a → exs O ags1 W a := fun a z => by
    rcases z with z | z | ⟨_, z⟩
    · exact .inl z
    · exact .inr (.inl z)
    · cases z
  rcases ru with ru | ⟨a, Ex, rfl, na, hex, own⟩
  · exact VR.le ⟨List.prefix_refl _, fun a _ z => sub a z, fun a o _ h => h⟩ _ _ ru
  · refine OwnR.vr (fun z => ?_) (OwnR.le (Ex := Ex) ⟨List.prefix_refl _, fun a _ z => hex a (sub a z), fun a o _ h => h⟩ rfl own)
    rcases z with z | z | ⟨_, z⟩
    · exact na.2 z
    · exact na.1 z
    · cases z
theorem f_retN : PS X (.Return none pos) (tS G M Wx .retN) := by
  refine PS.imp ps_retN fun Dd σV H h => ?_
  obtain ⟨O, b, ags, W, σ, S, sit, bs, h⟩ := h
  simp only [exS] at h
  exact SPost.ok sit bs h _ rfl
theorem f_brk : PS X (.Break pos) (tS G M Wx .brk) := by
  refine PS.imp ps_break fun Dd σV H h => ?_
  obtain ⟨O, b, ags, W, σ, S, sit, bs, h⟩ := h
  simp only [exS] at h
  exact SPost.ok sit bs h
theorem f_cnt : PS X (.Continue pos) (tS G M Wx .cnt) := by
  refine PS.imp ps_continue fun Dd σV H h => ?_
  obtain ⟨O, b, ags, W, σ, S, sit, bs, h⟩ := h
  simp only [exS] at h
  exact SPost.ok sit bs h
theorem f_pas : PS X (.Pass pos) (tS G M Wx .pas) := by
  refine PS.imp ps_pass fun Dd σV H h => ?_
  obtain ⟨O, b, ags, W, σ, S, sit, bs, h⟩ := h
  simp only [exS] at h
  exact SPost.ok sit bs h
theorem f_never {st : Stmt} : PS X st (tS G M Wx .never) := by
  refine PS.imp ps_never fun Dd σV H h => ?_
  obtain ⟨O, b, ags, W, σ, S, sit, bs, h⟩ := h
  simp only [exS] at h
  exact h.elim
theorem f_ife {xs ys : List Stmt} {sa sb : Sms} (hc : PT X c (tT G M Wx cc)) (ha : PSs X xs (tSs G M Wx sa)) (hb : PSs X ys (tSs G M Wx sb)) : PS X (.If c xs ys pos) (tS G M Wx (.ife cc sa sb)) := by
  refine PS.imp (ps_if hc ha hb) fun Dd σV H h => ?_
  obtain ⟨O, b, ags, W, σ, S, sit, bs, h⟩ := h
  simp only [exS] at h
  refine ⟨O, ags, W, σ, S, sit, (SPost.gt sit bs h).imp fun k S1 ags1 H1 e1 r1 h1 => ?_⟩
  cases k with
  | true => exact iteT ⟨O, b, ags1, W, σ, S1, sit.ext e1 r1, bs.ext e1 r1, h1⟩
  | false => exact iteF ⟨O, b, ags1, W, σ, S1, sit.ext e1 r1, bs.ext e1 r1, h1⟩
theorem f_aug {i : Nat} {px : Pos} (Z : Cz z X M G Wx) (hi : z.N[i]? = some x) (hl : locB z x = true) (he : PE X v (tE G M Wx .now ce)) : PS X (.AugAssign (.Name x px) .Add v pos) (tS G M Wx (.aug i ce)) := by
  obtain ⟨h1, h2⟩ := locB_of hl Z.env Z.fnb
  refine PS.imp (ps_aug Z.nd (by rw [Z.N]; exact hi) h1 he ip_add h2) fun Dd σV H h => ?_
  obtain ⟨O, b, ags, W, σ, S, sit, bs, h⟩ := h
  simp only [exS] at h
  split at h
  · rename_i n hs
    obtain ⟨w, e1, ew⟩ := sit.val i _ hs
    cases (show w = V.int n from ew)
    refine ⟨_, e1, O, ags, W, σ, S, sit, (SPost.gt sit bs h).imp fun d S1 ags1 H1 e1 r1 h1 u ru => ?_⟩
    cases d with
    | int k =>
      cases ru.int
      exact ⟨n, k, rfl, rfl, SPost.ok ((sit.ext e1 r1).set i (d := .int (n + k)) rfl) (bs.ext e1 r1) h1⟩
    | _ => exact h1.elim
  · exact h.elim
theorem f_asb {i : Nat} {px : Pos} (Z : Cz z X M G Wx) (hi : z.N[i]? = some x) (hl : locB z x = true) (he : PE X v (tE G M Wx .now ce)) : PS X (.AugAssign (.Name x px) .Sub v pos) (tS G M Wx (.asb i ce)) := by
  obtain ⟨h1, h2⟩ := locB_of hl Z.env Z.fnb
  refine PS.imp (ps_aug Z.nd (by rw [Z.N]; exact hi) h1 he ip_sub h2) fun Dd σV H h => ?_
  obtain ⟨O, b, ags, W, σ, S, sit, bs, h⟩ := h
  simp only [exS] at h
  split at h
  · rename_i n hs
    obtain ⟨w, e1, ew⟩ := sit.val i _ hs
    cases (show w = V.int n from ew)
    refine ⟨_, e1, O, ags, W, σ, S, sit, (SPost.gt sit bs h).imp fun d S1 ags1 H1 e1 r1 h1 u ru => ?_⟩
    cases d with
    | int k =>
      cases ru.int
      exact ⟨n, k, rfl, rfl, SPost.ok ((sit.ext e1 r1).set i (d := .int (n - k)) rfl) (bs.ext e1 r1) h1⟩
    | _ => exact h1.elim
  · exact h.elim
end
end PV

/-! ## PV: every suite that matches -/
namespace PV
open PySem PySem.Spec PyProof.Rows L2

theorem set_same {α : Type} {xs : List α} {i : Nat} {x : α} (h : xs[i]? = some x) : xs.set i x = xs := by
  refine List.ext_getElem? fun j => ?_
  by_cases e : i = j
  · subst e
    rw [List.getElem?_set_self (List.getElem?_eq_some_iff.mp h).1, h]
  · rw [List.getElem?_set_ne e]
section
variable {X : Cx} {M : Nm} {G : PV.Env} {Wx : WX} {z : Sx} {pos p : Pos} {a b c e v tg : Expr} {ca cb cc ce ck : Xp} {ces : Xps} {x y w : Str}
/-! ### own things, shared things written -/
theorem own_upd {i : Nat} {O : Adr} {b : Ba} {ags : List Addr} {W : Nat → Option Addr} {σ : Sg} {S : List D} {σV : L2.St} {H : Hp} {d' : D} {q : Addr} {o : HO} (sit : Sit M O ags W σ S σV H) (bs : Bs b.ags b.W b.H ags W H) (hw : W i = some q) (e1 : σV[i]? = some (some (.ref q)))
    (own : OwnR M ags (exs O ags W) (upd H q o) d' q) : Sit M O ags W (σ.set i (.own d')) S σV (upd H q o) ∧ Bs b.ags b.W b.H ags W (upd H q o) := by
  obtain ⟨w1, w2, w3⟩ := sit.sto.wn i q hw
  have l : Le ags (exs O ags W) H ags (exs O ags W) (upd H q o) :=
    ⟨List.prefix_refl _, fun a _ z => z, fun a o n k => by rw [upd_ne fun z => n (.inr (.inr ⟨i, by rw [z]; exact hw⟩))]; exact k⟩
  have sit' := sit.own' (W' := W) (p := q) (d := d') i l (fun _ _ => rfl) hw (fun j hj z => hj (sit.inj j i q z hw)) (fun j a' hj k => upd_ne fun z => hj (sit.inj j i a' k (by rw [z]; exact hw))) (sit.sto.putW w1 w2 (sit.sto.wo i q hw) own.ob) own
  rw [set_same e1] at sit'
  refine ⟨sit', bs.trans ⟨List.prefix_refl _, fun a o _ k h => by rw [upd_ne fun z => k i (by rw [z]; exact hw)]; exact h, fun a h => .inl h, fun j a h => .inl ⟨j, h⟩, fun a h => ?_⟩⟩
  by_cases e : a = q
  · rw [e]; exact own.ne
  · rw [upd_ne e]; exact h
theorem ref_upd {n : Nat} {O : Adr} {b : Ba} {ags : List Addr} {W : Nat → Option Addr} {σ : Sg} {S : List D} {σV : L2.St} {H : Hp} {d' : D} {q : Addr} {o : HO} (sit : Sit M O ags W σ S σV H) (bs : Bs b.ags b.W b.H ags W H) (hn : n < S.length) (hq : ags[n]? = some q) (hd : obI d' = true)
    (own : OwnR M ags (exs O ags W) (upd H q o) d' q) : Sit M O ags W σ (S.set n d') σV (upd H q o) ∧ Bs b.ags b.W b.H ags W (upd H q o) := by
  have hm : q ∈ ags := List.mem_of_getElem? hq
  have l : Le ags (exs O ags W) H ags (exs O ags W) (upd H q o) :=
    ⟨List.prefix_refl _, fun a _ z => z, fun a o nn kk => by rw [upd_ne fun z => nn (.inr (.inl (by rw [z]; exact hm)))]; exact kk⟩
  refine ⟨sit.extL l (fun jj a hw => upd_ne fun z => (sit.sto.wn jj a hw).2.1 (by rw [z]; exact hm)) (sit.sto.putA hn hq hd own), bs.trans ⟨List.prefix_refl _, fun a o nn _ h => by rw [upd_ne fun z => nn (by rw [z]; exact hm)]; exact h, fun a h => .inl h, fun jj a h => .inl ⟨jj, h⟩, fun a h => ?_⟩⟩
  by_cases e : a = q
  · rw [e]; exact own.ne
  · rw [upd_ne e]; exact h
/-- what a written list holds -/
theorem own_lst {ags : List Addr} {Ex : Adr} {H : Hp} {q : Addr} {ds : List D} {vs : List V} (hq : Ex q) (hv : VRs M ags Ex H ds vs) : OwnR M ags Ex (upd H q (.lst vs)) (.lst ds) q :=
  ⟨vs, upd_same, VRs.le ⟨List.prefix_refl _, fun a _ z => z, fun a o n k => by rw [upd_ne fun z => n (by rw [z]; exact hq)]; exact k⟩ _ _ hv⟩
def rSetA : TSet := fun o i v H Q => rSetL o i v H Q ∨ rSetD o i v H Q
theorem set_any (hu : X.A.units + 1 < cLine) : PSet X rSetA := by
  intro pins s σ H o i v ov iv u Q I ro ri rv h
  rcases h with h | h
  · exact set_list pins s σ H o i v ov iv u Q I ro ri rv h
  · exact set_dict hu pins s σ H o i v ov iv u Q I ro ri rv h
theorem set_ok {ags : List Addr} {Ex : Adr} {H : Hp} {d d' i y : D} {q : Addr} {iv u : V} (hq : Ex q) (own : OwnR M ags Ex H d q) (hk : RelD M ags H i iv) (hy : VR M ags Ex H y u) (hs : setD d i y = some d') :
    ∃ o, OwnR M ags Ex (upd H q o) d' q ∧ ∀ Q : Hp → Prop, Q (upd H q o) → rSetA (.ref q) iv u H Q := by
  unfold setD at hs
  split at hs
  · rename_i xs k
    obtain ⟨j, hj, rfl⟩ := Option.map_eq_some_iff.mp hs
    obtain ⟨vs, hH, hv⟩ := own
    cases hk.int
    exact ⟨_, own_lst hq (hv.set j hy), fun Q h => .inl ⟨q, vs, k, j, rfl, rfl, hH, by rw [hv.length]; exact hj, h⟩⟩
  · rename_i ks ws k
    split at hs
    · rename_i hc
      cases hs
      obtain ⟨vs, hv, hn, dr⟩ := own
      obtain ⟨H', hp, ⟨o, rfl⟩, hn', vs', dr', hv'⟩ := dput_ok hn dr hv hc.1 (by rw [← SZ_eq]; exact hc.2) hk hy
      refine ⟨o, ⟨vs', VRs.le ⟨List.prefix_refl _, fun a _ z => z, fun a o n k => by rw [upd_ne fun z => n (by rw [z]; exact hq)]; exact k⟩ _ _ hv', hn', dr'⟩, fun Q h => .inr ⟨q, _, rfl, hp, h⟩⟩
    · cases hs
  · cases hs
theorem imm_set {d d' i y : D} (h : obI d = true) (hy : immD y = true) (hs : setD d i y = some d') : obI d' = true := by
  have one : ∀ {xs : List D} {j : Nat}, immDs xs = true → immDs (xs.set j y) = true := by
    intro xs
    induction xs with
    | nil => intro j _; rfl
    | cons x r ih =>
      intro j h
      have h : (immD x && immDs r) = true := h
      rw [Bool.and_eq_true] at h
      cases j with
      | zero => show (immD y && immDs r) = true; rw [hy, h.2]; rfl
      | succ j => show (immD x && immDs (r.set j y)) = true; rw [h.1, ih h.2]; rfl
  have app : ∀ {xs : List D}, immDs xs = true → immDs (xs ++ [y]) = true := by
    intro xs
    induction xs with
    | nil => intro _; show (immD y && true) = true; rw [hy]; rfl
    | cons x r ih =>
      intro h
      have h : (immD x && immDs r) = true := h
      rw [Bool.and_eq_true] at h
      show (immD x && immDs (r ++ [y])) = true
      rw [h.1, ih h.2]; rfl
  have zw : ∀ (k : D) {ks vs : List D}, immDs vs = true → immDs (List.zipWith (fun a v => if keyEq a k then y else v) ks vs) = true := by
    intro k ks
    induction ks with
    | nil => intro vs _; rfl
    | cons a ks ih =>
      intro vs h
      cases vs with
      | nil => rfl
      | cons v vs =>
        have h : (immD v && immDs vs) = true := h
        rw [Bool.and_eq_true] at h
        show (immD (if keyEq a k then y else v) && immDs _) = true
        rw [ih h.2, Bool.and_true]
        split
        · exact hy
        · exact h.1
  cases d with
  | lst xs =>
    cases i with
    | int k =>
      obtain ⟨j, hj, rfl⟩ := Option.map_eq_some_iff.mp (show (L2.ixN xs.length k).map (fun j => D.lst (xs.set j y)) = some d' from hs)
      exact one h
    | _ => cases hs
  | dct ks vs =>
    replace hs : (if kmOk ks i = true ∧ vs.length < SZ then some (D.dct (dput ks vs i y).1 (dput ks vs i y).2) else none) = some d' := hs
    split at hs
    · cases hs
      show immDs (dput ks vs i y).2 = true
      unfold dput
      split
      · show (immD y && true) = true; rw [hy]; rfl
      · split
        · exact zw i h
        · exact app h
    · cases hs
  | _ => cases hs
theorem imm_app {y : D} (hy : immD y = true) : ∀ {xs : List D}, immDs xs = true → immDs (xs ++ [y]) = true
  | [], _ => by show (immD y && true) = true; rw [hy]; rfl
  | x :: r, h => by
    have h : (immD x && immDs r) = true := h
    rw [Bool.and_eq_true] at h
    show (immD x && immDs (r ++ [y])) = true
    rw [h.1, imm_app hy h.2]; rfl

/-! ### methods that write -/
theorem f_app {i : Nat} {px ap ep : Pos} (Z : Cz z X M G Wx) (hi : z.N[i]? = some x) (hv : visB z.sc x = true) (hn : nmOk x = true) (hl : (ap.endLine == p.line) = true) (hs : notStar v = true) (he : PE X v (tE G M Wx .cap ce)) :
    PS X (.Expr (.Call (.Attribute (.Name x px) "append" ap) [v] [] p) ep) (tS G M Wx (.app i ce)) := by
  have ho : PE X (.Name x px) (tVar i) := v_var Z hi hv hn
  have any : ∀ pos, (backTo pos (starEach [v] X.env)).any (·.1) = false := fun pos => by rw [star_of hs]; rfl
  have call := pe_bm F.plainAttrs_list F.slot_list_append F.type_list_append (show MtR X "list.append" rAppend from mt_append) ho (pa_cons he pa_nil (star_of hs)) (base_of rfl) (few_of (any _) (by show 1 < 28; decide)) hl (star_of hs) rfl
  refine PS.imp (ps_expr call rfl) fun Dd σV H h => ?_
  obtain ⟨O, b, ags, W, σ, S, sit, bs, h⟩ := h
  simp only [exS] at h
  split at h
  · rename_i xs hown
    obtain ⟨q, hw, e1, vs, hq, hvs⟩ := sit.own i _ hown
    refine ⟨_, e1, .inl ⟨rfl, vs, .inl (.inl hq)⟩, O, ags, W, σ, S, sit, (SPost.gt sit bs h).imp fun d S1 ags1 H1 e2 r1 h1 u ru => ?_⟩
    split at h1
    · rename_i hz
      have hq1 : H1 q = some (.lst vs) := e2.same q _ (sit.sto.wn i q hw).2.1 hq
      have hvs1 := VRs.le (e2.le (O := O) (W := W)) _ _ hvs
      obtain ⟨sit', bs'⟩ := own_upd (sit.ext e2 r1) (bs.ext e2 r1) hw e1 (own_lst (.inr (.inr ⟨i, hw⟩)) (hvs1.append (VRs.one ru)))
      exact ⟨q, vs, u, rfl, rfl, hq1, by rw [hvs.length, ← SZ_eq]; exact hz, SPost.ok sit' bs' h1⟩
    · exact h1.elim
  · exact h.elim
theorem f_ext {i : Nat} {px ap ep : Pos} (Z : Cz z X M G Wx) (hi : z.N[i]? = some x) (hv : visB z.sc x = true) (hn : nmOk x = true) (hl : (ap.endLine == p.line) = true) (hs : notStar v = true) (he : PE X v (tE G M Wx .cap ce)) :
    PS X (.Expr (.Call (.Attribute (.Name x px) "extend" ap) [v] [] p) ep) (tS G M Wx (.ext i ce)) := by
  have ho : PE X (.Name x px) (tVar i) := v_var Z hi hv hn
  have any : ∀ pos, (backTo pos (starEach [v] X.env)).any (·.1) = false := fun pos => by rw [star_of hs]; rfl
  have call := pe_bm F.plainAttrs_list F.slot_list_extend F.type_list_extend (show MtR X "list.extend" rExtend from mt_extend) ho (pa_cons he pa_nil (star_of hs)) (base_of rfl) (few_of (any _) (by show 1 < 28; decide)) hl (star_of hs) rfl
  refine PS.imp (ps_expr call rfl) fun Dd σV H h => ?_
  obtain ⟨O, b, ags, W, σ, S, sit, bs, h⟩ := h
  simp only [exS] at h
  split at h
  · rename_i xs hown
    obtain ⟨q, hw, e1, vs, hq, hvs⟩ := sit.own i _ hown
    · skip
      refine ⟨_, e1, .inl ⟨rfl, vs, .inl (.inl hq)⟩, O, ags, W, σ, S, sit, (SPost.gt sit bs h).imp fun d S1 ags1 H1 e2 r1 h1 u ru => ?_⟩
      have hq1 : H1 q = some (.lst vs) := e2.same q _ (sit.sto.wn i q hw).2.1 hq
      have hvs1 := VRs.le (e2.le (O := O) (W := W)) _ _ hvs
      cases d with
      | lst ys =>
        have h1 : SPost M O Wx Dd b (match (if xs.length + ys.length ≤ SZ then some (D.lst (xs ++ ys)) else none) with | some d' => .ok (.nx, σ.set i (.own d')) S1 | none => .stuck) := h1
        split at h1
        · rename_i d' hd'
          split at hd'
          · rename_i hz
            cases hd'
            obtain ⟨a, ws, rfl, na, ha, hws⟩ := ru
            obtain ⟨sit', bs'⟩ := own_upd (sit.ext e2 r1) (bs.ext e2 r1) hw e1 (own_lst (.inr (.inr ⟨i, hw⟩)) (hvs1.append hws))
            exact ⟨q, a, vs, ws, rfl, rfl, hq1, ha, by rw [hvs.length, hws.length, ← SZ_eq]; exact hz, SPost.ok sit' bs' h1⟩
          · cases hd'
        · exact h1.elim
      | _ => exact h1.elim
  · exact h.elim
theorem f_ins {i : Nat} {px ap ep : Pos} (Z : Cz z X M G Wx) (hi : z.N[i]? = some x) (hv : visB z.sc x = true) (hn : nmOk x = true) (hl : (ap.endLine == p.line) = true) (hs : notStar a = true) (hs2 : notStar v = true) (ha : PE X a (tE G M Wx .cap ck)) (he : PE X v (tE G M Wx .cap ce)) :
    PS X (.Expr (.Call (.Attribute (.Name x px) "insert" ap) [a, v] [] p) ep) (tS G M Wx (.ins i ck ce)) := by
  have ho : PE X (.Name x px) (tVar i) := v_var Z hi hv hn
  have any : ∀ pos, (backTo pos (starEach [a, v] X.env)).any (·.1) = false := fun pos => by rw [star_of hs, star_of hs2]; rfl
  have any2 : ∀ pos, (backTo pos (starEach [v] X.env)).any (·.1) = false := fun pos => by rw [star_of hs2]; rfl
  have call := pe_bm F.plainAttrs_list F.slot_list_insert F.type_list_insert mt_insert ho (pa_cons ha (pa_cons he pa_nil (star_of hs2)) (star_of hs)) (base_of rfl) (few_of (any _) (by show 2 < 28; decide)) hl (star_of hs) (any2 _)
  refine PS.imp (ps_expr call rfl) fun Dd σV H h => ?_
  obtain ⟨O, b, ags, W, σ, S, sit, bs, h⟩ := h
  simp only [exS] at h
  split at h
  · rename_i xs hown
    obtain ⟨q, hw, e1, vs, hq, hvs⟩ := sit.own i _ hown
    refine ⟨_, e1, .inl ⟨rfl, vs, .inl (.inl hq)⟩, O, ags, W, σ, S, sit, (SPost.gt sit bs h).imp fun k S1 ags1 H1 e2 r1 h1 kv rk => ?_⟩
    have sit1 := sit.ext e2 r1
    have bs1 := bs.ext e2 r1
    refine ⟨O, ags1, W, σ, S1, sit1, (SPost.gt sit1 bs1 h1).imp fun y S2 ags2 H2 e3 r2 h2 u ru => ?_⟩
    have sit2 := sit1.ext e3 r2
    have bs2 := bs1.ext e3 r2
    cases k with
    | int k =>
      cases (show kv = .int k from rk)
      have h2 : SPost M O Wx Dd b (match (if 0 ≤ k ∧ k < 2 ^ 62 ∧ xs.length < SZ then some (D.lst (xs.take k.toNat ++ y :: xs.drop k.toNat)) else none) with | some d' => .ok (.nx, σ.set i (.own d')) S2 | none => .stuck) := h2
      split at h2
      · rename_i d' hd'
        split at hd'
        · rename_i hz
          cases hd'
          have hq1 : H1 q = some (.lst vs) := e2.same q _ (sit.sto.wn i q hw).2.1 hq
          have hq2 : H2 q = some (.lst vs) := e3.same q _ (sit1.sto.wn i q hw).2.1 hq1
          have hvs2 := VRs.le (e3.le (O := O) (W := W)) _ _ (VRs.le (e2.le (O := O) (W := W)) _ _ hvs)
          have hall := ((hvs2.take k.toNat).append (VRs.one ru)).append (hvs2.drop k.toNat)
          rw [List.append_assoc] at hall
          obtain ⟨sit', bs'⟩ := own_upd (o := .lst (vs.take k.toNat ++ [u] ++ vs.drop k.toNat)) sit2 bs2 hw e1 (own_lst (.inr (.inr ⟨i, hw⟩)) hall)
          exact ⟨q, vs, k, u, rfl, rfl, hq2, by rw [hvs.length, ← SZ_eq]; exact hz.2.2, hz.1, by omega, SPost.ok sit' bs' h2⟩
        · cases hd'
      · exact h2.elim
    | _ => exact h2.elim
  · exact h.elim
theorem f_appR {o : Expr} {co : Xp} {ap ep : Pos} (Z : Cz z X M G Wx) (hb : baseB o = true) (hl : (ap.endLine == p.line) = true) (hs : notStar v = true) (ho : PE X o (tE G M Wx .bor co)) (he : PE X v (tE G M Wx .cap ce)) :
    PS X (.Expr (.Call (.Attribute o "append" ap) [v] [] p) ep) (tS G M Wx (.appR co ce)) := by
  have any : ∀ pos, (backTo pos (starEach [v] X.env)).any (·.1) = false := fun pos => by rw [star_of hs]; rfl
  have call := pe_bm F.plainAttrs_list F.slot_list_append F.type_list_append (show MtR X "list.append" rAppend from mt_append) ho (pa_cons he pa_nil (star_of hs)) (base_of hb) (few_of (any _) (by show 1 < 28; decide)) hl (star_of hs) rfl
  refine PS.imp (ps_expr call rfl) fun Dd σV H h => ?_
  obtain ⟨O, b, ags, W, σ, S, sit, bs, h⟩ := h
  simp only [exS] at h
  refine ⟨O, ags, W, σ, S, sit, (SPost.gt sit bs h).imp fun x S1 ags1 H1 e1 r1 h1 ov ro => ?_⟩
  have sit1 := sit.ext e1 r1
  have bs1 := bs.ext e1 r1
  replace ro : RelB M O ags1 W H1 x ov := ro
  split at h1
  · rename_i n
    obtain ⟨q, hq, rfl⟩ := ro.ref
    split at h1
    · rename_i xs0 hS
      obtain ⟨vs0, hH, _⟩ := r1.at_ n _ q hS hq
      refine ⟨.inl ⟨rfl, vs0, .inl (.inl hH)⟩, O, ags1, W, σ, S1, sit1, (SPost.gt sit1 bs1 h1).imp fun y S2 ags2 H2 e2 r2 h2 u ru => ?_⟩
      have sit2 := sit1.ext e2 r2
      have bs2 := bs1.ext e2 r2
      split at h2
      · rename_i xs hS2
        split at h2
        · rename_i hz
          have hq2 : ags2[n]? = some q := pre_get e2.pre hq
          obtain ⟨vs, hH2, hvs⟩ := r2.at_ n _ q hS2 hq2
          have ob := r2.fl _ (List.mem_of_getElem? hS2)
          obtain ⟨sit', bs'⟩ := ref_upd sit2 bs2 (List.getElem?_eq_some_iff.mp hS2).1 hq2 (show obI (.lst (xs ++ [y])) = true from imm_app hz.2 ob) (own_lst (.inr (.inl (List.mem_of_getElem? hq2))) (hvs.append (VRs.one ru)))
          exact ⟨q, vs, u, rfl, rfl, hH2, by rw [hvs.length, ← SZ_eq]; exact hz.1, SPost.ok sit' bs' h2⟩
        · exact h2.elim
      · exact h2.elim
    · exact h1.elim
  · exact h1.elim
theorem f_popO {i j : Nat} {px py ap : Pos} (Z : Cz z X M G Wx) (hi : z.N[i]? = some x) (hv : visB z.sc x = true) (hn : nmOk x = true) (hl : (ap.endLine == p.line) = true) (hj : z.N[j]? = some y) (hly : locB z y = true) (hij : i ≠ j) :
    PS X (.Assign [.Name y py] (.Call (.Attribute (.Name x px) "pop" ap) [] [] p) pos) (tS G M Wx (.popO j i)) := by
  have ho : PE X (.Name x px) (tVar i) := v_var Z hi hv hn
  obtain ⟨h1, h2⟩ := locB_of hly Z.env Z.fnb
  have call := pe_bm0 F.plainAttrs_list F.slot_list_pop F.type_list_pop (show MtR X "list.pop" rPop from mt_pop) ho (base_of rfl) hl
  refine PS.imp (ps_set Z.nd (by rw [Z.N]; exact hj) h1 call rfl h2) fun Dd σV H h => ?_
  obtain ⟨O, b, ags, W, σ, S, sit, bs, h⟩ := h
  simp only [exS] at h
  split at h
  · rename_i d0 hown
    obtain ⟨q, hw, e1, own⟩ := sit.own i _ hown
    split at h
    · rename_i yd d' hp
      rw [if_neg (Ne.symm hij)] at h
      cases d0 with
      | lst xs =>
        obtain ⟨vs, hq, hvs⟩ := own
        obtain ⟨y0, hy0, e⟩ := Option.map_eq_some_iff.mp (show (xs.getLast?).map (fun y => (y, D.lst xs.dropLast)) = some (yd, d') from hp)
        cases e
        rw [List.getLast?_eq_getElem?] at hy0
        obtain ⟨u, hu, ru⟩ := hvs.get hy0
        have hdl : VRs M ags (exs O ags W) H xs.dropLast vs.dropLast := by
          rw [List.dropLast_eq_take, List.dropLast_eq_take, hvs.length]
          exact hvs.take _
        obtain ⟨sit', bs'⟩ := own_upd sit bs hw e1 (own_lst (.inr (.inr ⟨i, hw⟩)) hdl)
        have l : Le ags (exs O ags W) H ags (exs O ags W) (upd H q (.lst vs.dropLast)) :=
          ⟨List.prefix_refl _, fun a _ z => z, fun a o n k => by rw [upd_ne fun z => n (.inr (.inr ⟨i, by rw [z]; exact hw⟩))]; exact k⟩
        refine ⟨_, e1, .inl ⟨rfl, vs, .inl (.inl hq)⟩, q, vs, u, rfl, rfl, hq, by rw [hvs.length]; exact hu, ?_⟩
        exact SPost.ok (sit'.set j (VR.le l _ _ ru)) bs' h
      | _ => cases hp
    · exact h.elim
  · exact h.elim

/-! ### stores -/
theorem f_putO {i : Nat} {px sp : Pos} (Z : Cz z X M G Wx) (hi : z.N[i]? = some x) (hv : visB z.sc x = true) (hnm : nmOk x = true) (hn : notComp v = true) (hns : notSlice b = true) (hb : PE X b (tE G M Wx .now ck)) (he : PE X v (tE G M Wx .cap ce)) :
    PS X (.Assign [.Subscript (.Name x px) b sp] v pos) (tS G M Wx (.putO i ck ce)) := by
  have ho : PE X (.Name x px) (tVar i) := v_var Z hi hv hnm
  have hg : PG X (.Subscript (.Name x px) b sp) (gSub (tVar i) (tE G M Wx .now ck) rSetA) := pg_sub ho hb (set_any (by have := Z.un; omega)) (by cases b <;> first | (intro _; rfl) | cases hns)
  have hsw : swapsWithSole [.Subscript (.Name x px) b sp] v pos.line X.env = pure false := by
    show swapsWith v (some (.Subscript (.Name x px) b sp)) pos.line X.env = pure false
    exact swF hn
  refine PS.imp (ps_asg he hg hsw (by cases v <;> rfl) rfl) fun Dd σV H h => ?_
  obtain ⟨O, bb, ags, W, σ, S, sit, bs, h⟩ := h
  simp only [exS] at h
  refine ⟨O, ags, W, σ, S, sit, (SPost.gt sit bs h).imp fun d S1 ags1 H1 e1 r1 h1 u ru => ?_⟩
  have sit1 := sit.ext e1 r1
  have bs1 := bs.ext e1 r1
  split at h1
  · rename_i d0 hown
    obtain ⟨q, hw, e0, own⟩ := sit1.own i _ hown
    refine ⟨_, e0, O, ags1, W, σ, S1, sit1, (SPost.gt sit1 bs1 h1).imp fun k S2 ags2 H2 e2 r2 h2 kv rk => ?_⟩
    have sit2 := sit1.ext e2 r2
    have bs2 := bs1.ext e2 r2
    replace rk : RelN M O ags2 W H2 k kv := rk
    obtain ⟨q2, hw2, e02, own2⟩ := sit2.own i _ hown
    rw [hw] at hw2
    cases hw2
    split at h2
    · rename_i d' hset
      obtain ⟨oo, own', kk⟩ := set_ok (Ex := exs O ags2 W) (.inr (.inr ⟨i, hw⟩)) own2 rk.d (VR.le (e2.le (O := O) (W := W)) _ _ ru) hset
      obtain ⟨sit', bs'⟩ := own_upd sit2 bs2 hw e0 own'
      exact kk _ (SPost.ok sit' bs' h2)
    · exact h2.elim
  · exact h1.elim
theorem f_putR {sp : Pos} (Z : Cz z X M G Wx) (hn : notComp v = true) (hns : notSlice b = true) (ha : PE X a (tE G M Wx .bor ca)) (hb : PE X b (tE G M Wx .now ck)) (he : PE X v (tE G M Wx .cap ce)) : PS X (.Assign [.Subscript a b sp] v pos) (tS G M Wx (.putR ca ck ce)) := by
  have hg : PG X (.Subscript a b sp) (gSub (tE G M Wx .bor ca) (tE G M Wx .now ck) rSetA) := pg_sub ha hb (set_any (by have := Z.un; omega)) (by cases b <;> first | (intro _; rfl) | cases hns)
  have hsw : swapsWithSole [.Subscript a b sp] v pos.line X.env = pure false := by
    show swapsWith v (some (.Subscript a b sp)) pos.line X.env = pure false
    exact swF hn
  refine PS.imp (ps_asg he hg hsw (by cases v <;> rfl) rfl) fun Dd σV H h => ?_
  obtain ⟨O, bb, ags, W, σ, S, sit, bs, h⟩ := h
  simp only [exS] at h
  refine ⟨O, ags, W, σ, S, sit, (SPost.gt sit bs h).imp fun d S1 ags1 H1 e1 r1 h1 u ru => ?_⟩
  have sit1 := sit.ext e1 r1
  have bs1 := bs.ext e1 r1
  refine ⟨O, ags1, W, σ, S1, sit1, (SPost.gt sit1 bs1 h1).imp fun o S2 ags2 H2 e2 r2 h2 ov ro => ?_⟩
  have sit2 := sit1.ext e2 r2
  have bs2 := bs1.ext e2 r2
  refine ⟨O, ags2, W, σ, S2, sit2, (SPost.gt sit2 bs2 h2).imp fun i S3 ags3 H3 e3 r3 h3 iv ri => ?_⟩
  have sit3 := sit2.ext e3 r3
  have bs3 := bs2.ext e3 r3
  have ro3 : RelB M O ags3 W H3 o ov := RelB.ext e3 ro
  replace ri : RelN M O ags3 W H3 i iv := ri
  have ru3 := VR.le (e3.le (O := O) (W := W)) _ _ (VR.le (e2.le (O := O) (W := W)) _ _ ru)
  split at h3
  · rename_i n
    obtain ⟨q, hq, rfl⟩ := ro3.ref
    split at h3
    · rename_i d' hd'
      split at h3
      · rename_i himm
        obtain ⟨d0, hS, hset⟩ := Option.bind_eq_some_iff.mp hd'
        obtain ⟨oo, own', k⟩ := set_ok (Ex := exs O ags3 W) (.inr (.inl (List.mem_of_getElem? hq))) (r3.at_ n _ q hS hq) ri.d ru3 hset
        obtain ⟨sit', bs'⟩ := ref_upd sit3 bs3 (List.getElem?_eq_some_iff.mp hS).1 hq (imm_set (r3.fl _ (List.mem_of_getElem? hS)) himm hset) own'
        exact k _ (SPost.ok sit' bs' h3)
      · exact h3.elim
    · exact h3.elim
  · exact h3.elim

/-! ### a, b = e, f -/
theorem blk_of {sc : Scope} {env : PySem.Env} (he : env.scope = sc) (hk : sc.kind = .function) : env.blockKind = .function := by
  unfold Env.blockKind
  rw [he, hk]; rfl
theorem any2 {f : Expr → Bool} (hf : ∀ e, notStar e = true → f e = false) (ha : notStar a = true) (hb : notStar b = true) : [a, b].any f = false := by
  simp only [List.any_cons, List.any_nil, hf a ha, hf b hb]; rfl
theorem any3 {f : Expr → Bool} (hf : ∀ e, notStar e = true → f e = false) (ha : notStar a = true) (hb : notStar b = true) (hc : notStar c = true) : [a, b, c].any f = false := by
  simp only [List.any_cons, List.any_nil, hf a ha, hf b hb, hf c hc]; rfl
theorem fm2 {f : Expr → Option Str} {px py : Pos} (h1 : f (.Name x px) = some x) (h2 : f (.Name y py) = some y) : [Expr.Name x px, Expr.Name y py].filterMap f = [x, y] := by
  simp only [List.filterMap_cons, List.filterMap_nil, h1, h2]
theorem fm3 {f : Expr → Option Str} {px py pw : Pos} (h1 : f (.Name x px) = some x) (h2 : f (.Name y py) = some y) (h3 : f (.Name w pw) = some w) : [Expr.Name x px, Expr.Name y py, Expr.Name w pw].filterMap f = [x, y, w] := by
  simp only [List.filterMap_cons, List.filterMap_nil, h1, h2, h3]
theorem nm_if {env : PySem.Env} {p1 : Pos} {l : Nat} (h1 : env.kindOf x = some .local) (hl : (p1.line == l) = true) : (if (env.kindOf x == some .local && p1.line == l) = true then some x else none) = some x := by
  rw [h1, hl]; rfl
theorem swS2 {env : PySem.Env} {px py pt p2 : Pos} {kt k2 : Nat} (hk : env.blockKind = .function) (h1 : env.kindOf x = some .local) (h2 : env.kindOf y = some .local) (hl : (px.line == py.line) = true) (hxy : x ≠ y) (ha : notStar a = true) (hb : notStar b = true)
    (hf : [a, b].all (foldedForSure 8) = false) (hc : [a, b].all (constantsAlone 8) = false) : swappedStores [.Tuple [.Name x px, .Name y py] kt pt] (.Tuple [a, b] k2 p2) env = pure (some [x, y]) := by
  have hl' : (py.line == px.line) = true := by rw [beq_iff_eq] at hl ⊢; exact hl.symm
  have hyx' : (y == x) = false := beq_eq_false_iff_ne.mpr (Ne.symm hxy)
  unfold swappedStores
  simp only [pure_bind, List.length_cons, List.length_nil, hk]
  rw [if_neg (by decide)]
  rw [if_neg (by rw [any2 (fun e h => by cases e <;> first | rfl | cases h) ha hb]; exact Bool.false_ne_true)]
  rw [fm2 (nm_if h1 (beq_self_eq_true _)) (nm_if h2 hl')]
  rw [if_neg (by simp [List.eraseDups_cons, hyx'])]
  rw [hf, hc]
  rfl
theorem swS3 {env : PySem.Env} {px py pw pt p2 : Pos} {kt k2 : Nat} (hk : env.blockKind = .function) (h1 : env.kindOf x = some .local) (h2 : env.kindOf y = some .local) (h3 : env.kindOf w = some .local) (hl : (px.line == py.line) = true) (hl2 : (px.line == pw.line) = true) (hxy : x ≠ y) (hxw : x ≠ w) (hyw : y ≠ w)
    (ha : notStar a = true) (hb : notStar b = true) (hcs : notStar c = true) (hf : [a, b, c].all (foldedForSure 8) = false) (hc : [a, b, c].all (constantsAlone 8) = false) :
    swappedStores [.Tuple [.Name x px, .Name y py, .Name w pw] kt pt] (.Tuple [a, b, c] k2 p2) env = pure (some [x, y, w]) := by
  have hl' : (py.line == px.line) = true := by rw [beq_iff_eq] at hl ⊢; exact hl.symm
  have hl2' : (pw.line == px.line) = true := by rw [beq_iff_eq] at hl2 ⊢; exact hl2.symm
  have hyx' : (y == x) = false := beq_eq_false_iff_ne.mpr (Ne.symm hxy)
  have hwx' : (w == x) = false := beq_eq_false_iff_ne.mpr (Ne.symm hxw)
  have hwy' : (w == y) = false := beq_eq_false_iff_ne.mpr (Ne.symm hyw)
  unfold swappedStores
  simp only [pure_bind, List.length_cons, List.length_nil, hk]
  rw [if_neg (by decide)]
  rw [if_neg (by rw [any3 (fun e h => by cases e <;> first | rfl | cases h) ha hb hcs]; exact Bool.false_ne_true)]
  rw [fm3 (nm_if h1 (beq_self_eq_true _)) (nm_if h2 hl') (nm_if h3 hl2')]
  rw [if_neg (by simp [List.eraseDups_cons, hyx', hwx', hwy'])]
  rw [hf, hc]
  rfl
end
end PV

/-! ## PV: raise, try -/
namespace PV
open PySem PySem.Spec PyProof.Rows L2

section
variable {X : Cx} {M : Nm} {G : PV.Env} {Wx : WX} {z : Sx} {pos p : Pos} {a b c e v tg : Expr} {ca cb cc ce ck : Xp} {ces : Xps} {x y w : Str}
theorem f_rse {k : Nat} {q : Pos} (Z : Cs z X M G Wx) (hc : z.CN[k]? = some x) (h0 : k ≠ 0) (hg : glB z.sc x = true) (hn : nmOk x = true) (he : PE X v (tE G M Wx .cap ce)) (hs : notStar v = true) :
    PS X (.Raise (some (.Call (.Name x q) [v] [] p)) none pos) (tS G M Wx (.rse k ce)) := by
  have hne : z.CN ≠ [] := fun e => by rw [e] at hc; simp at hc
  obtain ⟨⟨D, fI, fd, F1, hb, hC⟩, hr⟩ := (Z.ini hne).1.ex |> fun h => And.intro h (Z.ini hne).2
  obtain ⟨C, gC, I, iC, tI⟩ := hC k x hc h0
  obtain ⟨C', R⟩ := (Z.cz.ct hne).all k x hc
  have e0 := R.g
  rw [gC] at e0
  cases e0
  have ps : Passes (L2.CX X.prog X.w) X (fun _ _ _ => False) := fun pins σ H s e s' I h => by
    obtain ⟨_, _, _, _, _, _, _, _, _, _, _, _, z⟩ := h
    exact z.elim
  refine PS.imp (ps_raise Z.cz.calm Z.cz.tk (pmk_oex (dvs := []) I.ox iC tI F1 hr hb .nil ps (gl_of Z.cz hg) gC (pa_cons he pa_nil (star_of hs)) (nm_of hn).1 (star_of hs) rfl)) fun Dd σV H h => ?_
  obtain ⟨O, b, ags, W, σ, S, sit, bs, h⟩ := h
  simp only [exS] at h
  refine ⟨O, ags, W, σ, S, sit, (SPost.gt sit bs h).imp fun d S1 ags1 H1 e1 r1 h1 u ru => ?_⟩
  have ru : VR M ags1 (exs O ags1 W) H1 d u := ru
  refine ⟨by show 1 ≤ 1000; omega, fun a na => ⟨a, C, u, rfl, I, upd_same, fun dx ndx hda => ⟨rfl, dx, [("value", u)], upd_same, by rw [upd_ne hda, upd_same], ?_, ?_⟩⟩⟩
  · rw [upd_ne hda] at ndx
    exact ndx
  · have ndx1 : H1 dx = none := by rw [upd_ne hda] at ndx; exact ndx
    have eH : upd (del (upd (upd (upd H1 a (exo a C none)) dx (exd dx [("value", u)])) a (exo a C (some dx))) a) dx (.xd [("value", u)]) = upd H1 dx (.xd [(("value" : Str), u)]) := by
      funext b
      by_cases hb : b = dx
      · rw [hb, upd_same, upd_same]
      · rw [upd_ne hb, upd_ne hb]
        by_cases hba : b = a
        · rw [hba, del_same, na]
        · rw [del_ne hba, upd_ne hba, upd_ne hb, upd_ne hba]
    rw [eH]
    refine SPost.ok (fl := .xc (.exc k [d])) ((sit.ext e1 r1).ext (Ext.upd ndx1) (r1.upd ndx1)) ((bs.ext e1 r1).ext (Ext.upd ndx1) (r1.upd ndx1)) h1 _ _ ?_
    exact ⟨C, ["value"], [u], dx, R.m, rfl, rfl, r1.nex ndx1, rfl, upd_same, u, [], rfl, VR.le (Ext.upd ndx1).le _ _ ru, rfl⟩
theorem f_try {c i j : Nat} {n : Str} {body : List Stmt} {sb : Sms} {np py pw p2 pos' : Pos} (Z : Cs z X M G Wx) (hc : z.CN[c]? = some x) (hg : glB z.sc x = true) (hnx : nmOk x = true) (hij : i ≠ j) (hi : z.N[i]? = some y) (hly : locB z y = true) (hj : z.N[j]? = some n) (hln : z.sc.names.lookup n = some .local) (hn : nmOk n = true)
    (hb : ∀ {X' : Cx} {Wx' : WX}, Cs z X' M G Wx' → PSs X' body (tSs G M Wx' sb)) :
    PS X (.Try body [.ExceptHandler (some (.Name x np)) (some n) [.Assign [.Name y py] (.Name n pw) p2] pos'] [] [] pos) (tS G M Wx (.tryA sb c i j)) := by
  have hne : z.CN ≠ [] := fun e => by rw [e] at hc; simp at hc
  have T := Z.cz.ct hne
  obtain ⟨Cc, R⟩ := T.all c x hc
  obtain ⟨l1, l2⟩ := locB_of hly Z.cz.env Z.cz.fnb
  refine PS.imp (ps_try_keep (i := i) (j := j) (tb := fun W => tSs G M W sb) Z.stk Z.frm Z.cz.nd (by rw [Z.cz.N]; exact hj) (by rw [Z.cz.N]; exact hi) (by show X.env.scope.names.lookup n = _; rw [Z.cz.env]; exact hln) l1 l2 ⟨(nm_of hn).1, (nm_of hn).2.1⟩
    ⟨gl_of Z.cz hg, (nm_of hnx).1, .inl R.g⟩ Z.cz.tk fun W pn xe tk po => hb ?_) fun Dd σV H h => ?_
  · refine ⟨⟨Z.cz.env, Z.cz.N, Z.cz.nd, Z.cz.calm, Z.cz.hd, Z.cz.K, Z.cz.gd, Z.cz.un, fun f y m q h => ?_, Z.cz.gv, Z.cz.blt, Z.cz.dig, Z.cz.fnb, Z.cz.fv, Z.cz.fo, Z.cz.ct, tk⟩, Z.ini, Z.stk, Z.frm, po⟩
    obtain ⟨f', fd, ps, k, a⟩ := (Z.cz.fn f y m q h).ex
    exact ⟨f', fd, ps, k, a⟩
  · obtain ⟨O, b, ags, W, σ, S, sit, bs, h⟩ := h
    refine ⟨O, b, ags, W, σ, S, sit, bs, ?_⟩
    simp only [exS] at h
    cases hx : exSs G sb σ S with
    | exc e S1 => rw [hx] at h; exact h.elim
    | stuck => rw [hx] at h; exact h.elim
    | ok q S1 =>
      rw [hx] at h
      obtain ⟨fl, σ1⟩ := q
      cases fl with
      | nx => exact h
      | bk => exact h
      | ct => exact h
      | rt d => exact h
      | xc e =>
        intro ags' W' σV' H' sit' bs' cls dx xr
        cases e with
        | exc d fs =>
          obtain ⟨C, ns, us, a, h1, rfl, rfl, h4, h5, h6, h7⟩ := xr
          obtain ⟨xd, hxd⟩ := T.only d _ h1
          obtain ⟨C2, R2⟩ := T.all d xd hxd
          have hm := R2.m
          rw [h1] at hm
          cases hm
          obtain ⟨D, g1, _, _, _, g2⟩ := R2.su c x hc
          rw [R.g] at g1
          cases g1
          refine ⟨_, g2, fun hk => ⟨C, a, rfl, rfl, fun p np => ?_⟩, fun hk => ?_⟩
          · have hk' : c = 0 ∨ c = d := by simpa using hk
            have h : SPost M O Wx Dd b (if c = 0 ∨ c = d then (if i = j then .stuck else .ok (.nx, (σ1.set j .un).set i (.val (.exc d fs))) S1) else .ok (.xc (.exc d fs), σ1) S1) := h
            rw [if_pos hk', if_neg hij] at h
            have ex1 : Ext ags' H' ags' (upd H' p (ExZ C a p)) := Ext.upd np
            have r1 := sit'.sto.upd (o := ExZ C a p) np
            have sit1 := (sit'.ext ex1 r1).unset j
            have hap : a ≠ p := fun e => by rw [e, np] at h6; cases h6
            have vr : VR M ags' (exs O ags' W') (upd H' p (ExZ C a p)) (.exc d fs) (.ref p) :=
              ⟨C, _, us, p, a, h1, rfl, sit'.sto.nex np, upd_same, h4, by rw [upd_ne hap]; exact h6, h5, VRs.le ex1.le _ _ h7⟩
            have fin := SPost.ok (sit1.set i vr) (bs'.ext ex1 r1) h
            have es : ((σV'.set j (some (.ref p))).set i (some (.ref p))).set j none = (σV'.set j none).set i (some (V.ref p)) := by
              rw [List.set_comm _ _ hij, List.set_set]
            rw [es]
            exact fin
          · have hk' : ¬ (c = 0 ∨ c = d) := by simpa using hk
            have h : SPost M O Wx Dd b (if c = 0 ∨ c = d then (if i = j then .stuck else .ok (.nx, (σ1.set j .un).set i (.val (.exc d fs))) S1) else .ok (.xc (.exc d fs), σ1) S1) := h
            rw [if_neg hk'] at h
            exact SPost.ok (fl := .xc (.exc d fs)) sit' bs' h _ _ ⟨C, _, us, a, h1, rfl, rfl, h4, h5, h6, h7⟩
        | _ => exact xr.elim
theorem VRs.erase {ags : List Addr} {Ex : Adr} {H : Hp} {ds : List D} {vs : List V} (k : Nat) (h : VRs M ags Ex H ds vs) : VRs M ags Ex H (ds.eraseIdx k) (vs.eraseIdx k) := by
  rw [List.eraseIdx_eq_take_drop_succ, List.eraseIdx_eq_take_drop_succ]
  exact (h.take k).append (h.drop (k + 1))
theorem pop_at {xs : List D} {k : Int} {y : D} {r : List D} (h : popKD xs k = some (y, r)) : 0 ≤ k ∧ k < 2 ^ 62 ∧ xs[k.toNat]? = some y ∧ r = xs.eraseIdx k.toNat ∧ seqIndex? k xs.length = some k.toNat := by
  unfold popKD at h
  split at h
  · rename_i hk
    obtain ⟨z, hz, e⟩ := Option.map_eq_some_iff.mp h
    cases e
    refine ⟨hk.1, hk.2, hz, rfl, ?_⟩
    have hl := (List.getElem?_eq_some_iff.mp hz).1
    unfold seqIndex?
    have h1 : ¬ k < 0 := by omega
    simp only [h1, if_false]
    have h2 : (decide (0 ≤ k) && decide (k < (xs.length : Int))) = true := by
      rw [Bool.and_eq_true, decide_eq_true_eq, decide_eq_true_eq]
      omega
    rw [if_pos h2]
  · cases h
theorem f_popK {i j : Nat} {px py ap : Pos} (Z : Cz z X M G Wx) (hi : z.N[i]? = some x) (hv : visB z.sc x = true) (hn : nmOk x = true) (hl : (ap.endLine == p.line) = true) (hj : z.N[j]? = some y) (hly : locB z y = true) (hij : i ≠ j) (hs : notStar v = true) (he : PE X v (tE G M Wx .now ce)) :
    PS X (.Assign [.Name y py] (.Call (.Attribute (.Name x px) "pop" ap) [v] [] p) pos) (tS G M Wx (.popK j i ce)) := by
  have ho : PE X (.Name x px) (tVar i) := v_var Z hi hv hn
  obtain ⟨h1, h2⟩ := locB_of hly Z.env Z.fnb
  have any : ∀ pos, (backTo pos (starEach [v] X.env)).any (·.1) = false := fun pos => by rw [star_of hs]; rfl
  have call := pe_bm F.plainAttrs_list F.slot_list_pop F.type_list_pop (show MtR X "list.pop" rPopAt from mt_popAt) ho (pa_cons he pa_nil (star_of hs)) (base_of rfl) (few_of (any _) (by show 1 < 28; decide)) hl (star_of hs) rfl
  refine PS.imp (ps_set Z.nd (by rw [Z.N]; exact hj) h1 call rfl h2) fun Dd σV H h => ?_
  obtain ⟨O, b, ags, W, σ, S, sit, bs, h⟩ := h
  simp only [exS] at h
  split at h
  · rename_i ys hown
    obtain ⟨q, hw, e1, vs, hq, hvs⟩ := sit.own i _ hown
    refine ⟨_, e1, .inl ⟨rfl, vs, .inl (.inl hq)⟩, O, ags, W, σ, S, sit, (SPost.gt sit bs h).imp fun k S1 ags1 H1 ex r1 h1 kv rk => ?_⟩
    cases k with
    | int k =>
      have rk : RelN M O ags1 W H1 (.int k) kv := rk
      cases rk.int
      have h1 : SPost M O Wx Dd b (if j ≠ i then (match popKD ys k with | some (y, ys') => .ok (.nx, (σ.set i (.own (.lst ys'))).set j (.val y)) S1 | none => .stuck) else .stuck) := h1
      rw [if_pos (Ne.symm hij)] at h1
      cases hp : popKD ys k with
      | none => rw [hp] at h1; exact h1.elim
      | some yr =>
        obtain ⟨y0, ys'⟩ := yr
        rw [hp] at h1
        obtain ⟨p1, p2, p3, rfl, p5⟩ := pop_at hp
        have hq1 : H1 q = some (.lst vs) := ex.same q _ (sit.sto.wn i q hw).2.1 hq
        have hvs1 := VRs.le (ex.le (O := O) (W := W)) _ _ hvs
        obtain ⟨u, hu, ru⟩ := hvs1.get p3
        obtain ⟨sit', bs'⟩ := own_upd (sit.ext ex r1) (bs.ext ex r1) hw e1 (own_lst (.inr (.inr ⟨i, hw⟩)) (VRs.erase k.toNat hvs1))
        have l : Le ags1 (exs O ags1 W) H1 ags1 (exs O ags1 W) (upd H1 q (.lst (vs.eraseIdx k.toNat))) :=
          ⟨List.prefix_refl _, fun a _ z => z, fun a o n k => by rw [upd_ne fun z => n (.inr (.inr ⟨i, by rw [z]; exact hw⟩))]; exact k⟩
        refine ⟨q, vs, k, k.toNat, u, rfl, rfl, hq1, by omega, by omega, by rw [hvs.length]; exact p5, hu, ?_⟩
        exact SPost.ok (sit'.set j (VR.le l _ _ ru)) bs' h1
    | _ => exact h1.elim
  · exact h.elim
theorem f_appP {i j : Nat} {px py ap ap2 p2 ep : Pos} (Z : Cz z X M G Wx) (hij : i ≠ j) (hi : z.N[i]? = some x) (hv : visB z.sc x = true) (hn : nmOk x = true) (hj : z.N[j]? = some y) (hvj : visB z.sc y = true) (hnj : nmOk y = true) (hl : (ap.endLine == p.line) = true) (hl2 : (ap2.endLine == p2.line) = true) (hs : notStar v = true) (he : PE X v (tE G M Wx .now ce)) :
    PS X (.Expr (.Call (.Attribute (.Name x px) "append" ap) [.Call (.Attribute (.Name y py) "pop" ap2) [v] [] p2] [] p) ep) (tS G M Wx (.appP i j ce)) := by
  have ho : PE X (.Name x px) (tVar i) := v_var Z hi hv hn
  have ho2 : PE X (.Name y py) (tVar j) := v_var Z hj hvj hnj
  have any : ∀ pos, (backTo pos (starEach [v] X.env)).any (·.1) = false := fun pos => by rw [star_of hs]; rfl
  have inner := pe_bm F.plainAttrs_list F.slot_list_pop F.type_list_pop (show MtR X "list.pop" rPopAt from mt_popAt) ho2 (pa_cons he pa_nil (star_of hs)) (base_of rfl) (few_of (any _) (by show 1 < 28; decide)) hl2 (star_of hs) rfl
  have any2 : ∀ pos, (backTo pos (starEach [.Call (.Attribute (.Name y py) "pop" ap2) [v] [] p2] X.env)).any (·.1) = false := fun pos => rfl
  have call := pe_bm F.plainAttrs_list F.slot_list_append F.type_list_append (show MtR X "list.append" rAppend from mt_append) ho (pa_cons inner pa_nil (star_of rfl)) (base_of rfl) (few_of (any2 _) (by show 1 < 28; decide)) hl (star_of rfl) rfl
  refine PS.imp (ps_expr call rfl) fun Dd σV H h => ?_
  obtain ⟨O, b, ags, W, σ, S, sit, bs, h⟩ := h
  simp only [exS] at h
  split at h
  · rename_i xs ys hox hoy
    obtain ⟨q, hw, e1, vs, hq, hvs⟩ := sit.own i _ hox
    obtain ⟨q2, hw2, e2, ws, hq2, hws⟩ := sit.own j _ hoy
    have nq : q ≠ q2 := fun e => hij (sit.inj i j q hw (by rw [e]; exact hw2))
    refine ⟨_, e1, .inl ⟨rfl, vs, .inl (.inl hq)⟩, _, e2, .inl ⟨rfl, ws, .inl (.inl hq2)⟩, O, ags, W, σ, S, sit, (SPost.gt sit bs h).imp fun k S1 ags1 H1 ex r1 h1 kv rk => ?_⟩
    cases k with
    | int k =>
      have rk : RelN M O ags1 W H1 (.int k) kv := rk
      cases rk.int
      have h1 : SPost M O Wx Dd b (if xs.length < SZ ∧ i ≠ j then (match popKD ys k with | some (y, ys') => .ok (.nx, (σ.set j (.own (.lst ys'))).set i (.own (.lst (xs ++ [y])))) S1 | none => .stuck) else .stuck) := h1
      split at h1
      · rename_i hz
        cases hp : popKD ys k with
        | none => rw [hp] at h1; exact h1.elim
        | some yr =>
          obtain ⟨y0, ys'⟩ := yr
          rw [hp] at h1
          obtain ⟨p1, p2, p3, rfl, p5⟩ := pop_at hp
          have hqa : H1 q = some (.lst vs) := ex.same q _ (sit.sto.wn i q hw).2.1 hq
          have hqb : H1 q2 = some (.lst ws) := ex.same q2 _ (sit.sto.wn j q2 hw2).2.1 hq2
          have hvs1 := VRs.le (ex.le (O := O) (W := W)) _ _ hvs
          have hws1 := VRs.le (ex.le (O := O) (W := W)) _ _ hws
          obtain ⟨u, hu, ru⟩ := hws1.get p3
          obtain ⟨sit1, bs1⟩ := own_upd (sit.ext ex r1) (bs.ext ex r1) hw2 e2 (own_lst (.inr (.inr ⟨j, hw2⟩)) (VRs.erase k.toNat hws1))
          have l : Le ags1 (exs O ags1 W) H1 ags1 (exs O ags1 W) (upd H1 q2 (.lst (ws.eraseIdx k.toNat))) :=
            ⟨List.prefix_refl _, fun a _ z => z, fun a o n k => by rw [upd_ne fun z => n (.inr (.inr ⟨j, by rw [z]; exact hw2⟩))]; exact k⟩
          have hvs2 := VRs.le l _ _ hvs1
          have ru2 := VR.le l _ _ ru
          obtain ⟨sit2, bs2⟩ := own_upd (i := i) sit1 bs1 hw e1 (own_lst (.inr (.inr ⟨i, hw⟩)) (hvs2.append (VRs.one ru2)))
          refine ⟨q2, ws, k, k.toNat, u, rfl, rfl, hqb, by omega, by omega, by rw [hws.length]; exact p5, hu, ?_⟩
          exact ⟨q, vs, u, rfl, rfl, by rw [upd_ne nq]; exact hqa, by rw [hvs.length, ← SZ_eq]; exact hz.1, SPost.ok sit2 bs2 h1⟩
      · exact h1.elim
    | _ => exact h1.elim
  · exact h.elim
end
end PV

/-! ## PV: loops, suites -/
namespace PV
open PySem PySem.Spec PyProof.Rows L2

section
variable {X : Cx} {M : Nm} {G : PV.Env} {Wx : WX} {z : Sx} {pos p : Pos} {a b c e v tg : Expr} {ca cb cc ce ck : Xp} {ces : Xps} {x y w : Str}
theorem locN_of (Z : Cz z X M G Wx) {i : Nat} (h : locN z i x = true) : X.N[i]? = some x ∧ X.env.scope.names.lookup x = some .local := by
  unfold locN at h
  simp only [Bool.and_eq_true, beq_iff_eq] at h
  exact ⟨by rw [Z.N]; exact h.1, by rw [Z.env]; exact h.2⟩
theorem nd_ne (Z : Cz z X M G Wx) {i j : Nat} (h : i ≠ j) (hi : X.N[i]? = some x) (hj : X.N[j]? = some y) : x ≠ y := by
  rintro rfl
  exact h ((List.getElem?_inj (List.getElem?_eq_some_iff.mp hi).1 Z.nd).mp (by rw [hi, hj]))
theorem f_par2 {i j : Nat} {px py pt p2 : Pos} {kt k2 : Nat} (Z : Cz z X M G Wx) (h1 : locN z i x = true) (h2 : locN z j y = true) (hij : i ≠ j) (ha : PA X [a, b] (tA G M Wx true ces)) (hsa : notStar a = true) (hsb : notStar b = true) (hl : (px.line == py.line) = true) (hk : z.sc.kind = .function)
    (hf : [a, b].all (foldedForSure 8) = false) (hc : [a, b].all (constantsAlone 8) = false) : PS X (.Assign [.Tuple [.Name x px, .Name y py] kt pt] (.Tuple [a, b] k2 p2) pos) (tS G M Wx (.par [i, j] ces)) := by
  obtain ⟨n1, l1⟩ := locN_of Z h1
  obtain ⟨n2, l2⟩ := locN_of Z h2
  refine PS.imp (ps_par Z.calm Z.nd n1 n2 hij l1 l2 ha (swS2 (blk_of Z.env hk) l1 l2 hl (nd_ne Z hij n1 n2) hsa hsb hf hc) rfl) fun Dd σV H h => ?_
  obtain ⟨O, bb, ags, W, σ, S, sit, bs, h⟩ := h
  simp only [exS] at h
  refine ⟨O, ags, W, σ, S, sit, (SPost.gt sit bs h).imp fun ds S1 ags1 H1 e1 r1 h1 vs rvs => ?_⟩
  have rvs : VRs M ags1 (exs O ags1 W) H1 ds vs := rvs
  match ds, h1, rvs with
  | [d1, d2], h1, rvs =>
    obtain ⟨v1, t1, rfl, q1, v2, t2, rfl, q2, e⟩ := rvs
    cases (show t2 = [] from e)
    exact ⟨v1, v2, rfl, SPost.ok (((sit.ext e1 r1).set i q1).set j q2) (bs.ext e1 r1) h1⟩
  | [], h1, _ => exact h1.elim
  | [_], h1, _ => exact h1.elim
  | _ :: _ :: _ :: _, h1, _ => exact h1.elim
theorem f_parO {i j : Nat} {px py pt p2 : Pos} {kt k2 : Nat} (Z : Cz z X M G Wx) (h1 : locN z i x = true) (h2 : locN z j y = true) (hij : i ≠ j) (ha : PE X a (tE G M Wx .cap ca)) (hb : PE X b (tE G M Wx .frs cb)) (hsa : notStar a = true) (hsb : notStar b = true) (hl : (px.line == py.line) = true) (hk : z.sc.kind = .function)
    (hf : [a, b].all (foldedForSure 8) = false) (hc : [a, b].all (constantsAlone 8) = false) : PS X (.Assign [.Tuple [.Name x px, .Name y py] kt pt] (.Tuple [a, b] k2 p2) pos) (tS G M Wx (.parO i j ca cb)) := by
  obtain ⟨n1, l1⟩ := locN_of Z h1
  obtain ⟨n2, l2⟩ := locN_of Z h2
  refine PS.imp (ps_par Z.calm Z.nd n1 n2 hij l1 l2 (pa_cons ha (pa_cons hb pa_nil (star_of hsb)) (star_of hsa)) (swS2 (blk_of Z.env hk) l1 l2 hl (nd_ne Z hij n1 n2) hsa hsb hf hc) rfl) fun Dd σV H h => ?_
  obtain ⟨O, bb, ags, W, σ, S, sit, bs, h⟩ := h
  simp only [exS] at h
  refine ⟨O, ags, W, σ, S, sit, (SPost.gt sit bs h).imp fun d1 S1 ags1 H1 e1 r1 h1 v1 rv1 => ?_⟩
  have sit1 := sit.ext e1 r1
  have bs1 := bs.ext e1 r1
  refine ⟨O, ags1, W, σ, S1, sit1, (SPost.gt sit1 bs1 h1).imp fun d2 S2 ags2 H2 e2 r2 h2 v2 rv2 => ?_⟩
  split at h2
  · rename_i hd
    obtain ⟨W', sit', bs', _⟩ := own_sit (i := j) (sit1.set i (d := d1) rv1) e2 r2 hd rv2
    exact ⟨v1, v2, rfl, SPost.ok sit' (bs1.trans bs') h2⟩
  · exact h2.elim
/-- a thing that is new, not to be leant on for a while -/
theorem SR.addO {O : Adr} {ags : List Addr} {W : Nat → Option Addr} {H : Hp} {S : List D} {p : Addr} (r : SR M O ags W H S) (np : ¬ exs O ags W p) (ob : Ob H p) : SR M (OD O p) ags W H S := by
  have tl : Tl ags H ags (exs (OD O p) ags W) H := ⟨List.prefix_refl _, fun a vs k => ⟨k, fun z => by
    rcases z with (z | z) | z | ⟨i, z⟩
    · exact (r.oo a z).tup k
    · rw [z] at k; exact ob.tup k
    · exact (r.aob z).tup k
    · exact (r.wo i a z).tup k⟩⟩
  refine ⟨r.len, r.nd, fun n d a h1 h2 => OwnR.imm tl (r.fl d (List.mem_of_getElem? h1)) rfl (r.at_ n d a h1 h2), fun a ha z => ?_, fun i a hw => ?_, fun a ha => ?_, r.wo, fun a ha => ?_, r.fl⟩
  · rcases z with z | z
    · exact r.ap a ha z
    · exact np (.inr (.inl (z ▸ ha)))
  · obtain ⟨k1, k2, k3⟩ := r.wn i a hw
    refine ⟨fun z => ?_, k2, k3⟩
    rcases z with z | z
    · exact k1 z
    · exact np (.inr (.inr ⟨i, z ▸ hw⟩))
  · rcases ha with ha | ha
    · exact r.on a ha
    · rw [ha]; exact ob.ne
  · rcases ha with ha | ha
    · exact r.oo a ha
    · rw [ha]; exact ob
/-- two values, the first one new -/
theorem core_parP {i j : Nat} {O : Adr} {bb : Ba} {ags : List Addr} {W : Nat → Option Addr} {σ : Sg} {S : List D} {σV : L2.St} {H : Hp} {Dd : Ends} {QQ : List V → Hp → Prop} (hij : i ≠ j) (sit : Sit M O ags W σ S σV H) (bs : Bs bb.ags bb.W bb.H ags W H) (h : SPost M O Wx Dd bb (exS G (.parP i j ca cb) σ S))
    (fin : ∀ v1 v2 ags2 W2 H2 σ2 S2, Sit M O ags2 W2 σ2 S2 ((σV.set i (some v1)).set j (some v2)) H2 → Bs bb.ags bb.W bb.H ags2 W2 H2 → SPost M O Wx Dd bb (.ok (.nx, σ2) S2) → QQ [v1, v2] H2) : tCons (tE G M Wx .frs ca) (tCons (tE G M Wx .cap cb) tNil) σV H QQ := by
  simp only [exS] at h
  refine ⟨O, ags, W, σ, S, sit, (SPost.gt sit bs h).imp fun d1 S1 ags1 H1 e1 r1 h1 v1 rv1 => ?_⟩
  have sit1 := sit.ext e1 r1
  have bs1 := bs.ext e1 r1
  by_cases hd : isOb d1 = true
  · replace rv1 : RelF M O H ags1 W H1 d1 v1 := rv1
    rcases rv1 with ⟨hno, _⟩ | ⟨q, rfl, hq, nq, own⟩
    · rw [hno] at hd; cases hd
    · have rD := r1.addO nq own.ob
      have l : Le ags (exs O ags W) H ags1 (exs (OD O q) ags1 W) H1 := by
        refine ⟨e1.pre, fun a ha z => ?_, fun a o n h => e1.same a o (fun z => n (.inr (.inl z))) h⟩
        rcases z with (z | z) | z | z
        · exact .inl z
        · exact absurd (z ▸ hq) ha
        · rcases e1.new a z with z | z
          · exact .inr (.inl z)
          · exact absurd z ha
        · exact .inr (.inr z)
      have sitD := sit.extL l (fun k a hw => by
        obtain ⟨o, ho⟩ := Option.ne_none_iff_exists'.mp (sit.sto.wn k a hw).2.2
        rw [ho]
        exact e1.same a o (sit.sto.wn k a hw).2.1 ho) rD
      refine ⟨OD O q, ags1, W, σ, S1, sitD, ?_⟩
      cases hy : evE G cb σ S1 with
      | stuck => rw [hy] at h1; exact h1
      | exc e S2 =>
        rw [hy] at h1
        intro ags2 H2 cls dx e2 r2 x2
        refine h1 ags2 W σV H2 (sit1.ext e2 r2.dropD) (bs1.ext e2 r2.dropD) cls dx ?_
        cases e with
        | exc c fs =>
          obtain ⟨C, ns, vs, a, q1, q2, q3, q4, q5, q6, q7⟩ := x2
          refine ⟨C, ns, vs, a, q1, q2, q3, fun z => q4 ?_, q5, q6, VRs.le ⟨List.prefix_refl _, fun b _ z => ?_, fun b u _ z => z⟩ _ _ q7⟩
          · rcases z with z | z
            · exact .inl (.inl z)
            · exact .inr z
          · rcases z with z | z
            · exact .inl (.inl z)
            · exact .inr z
        | _ => exact x2.elim
      | ok y S2 =>
        rw [hy] at h1
        intro ags2 H2 e2 r2 v2 rv2
        replace rv2 : VR M ags2 (exs (OD O q) ags2 W) H2 y v2 := rv2
        have h2 : SPost M O Wx Dd bb (if isOb d1 = true ∧ i ≠ j then .ok (.nx, (σ.set i (.own d1)).set j (.val y)) S2 else .stuck) := h1
        rw [if_pos ⟨hd, hij⟩] at h2
        have r2' := r2.dropD
        have nq2 : ¬ exs O ags2 W q := by
          rintro (z | z | z)
          · exact nq (.inl z)
          · rcases e2.new q z with z | z
            · exact nq (.inr (.inl z))
            · exact own.ne z
          · exact nq (.inr (.inr z))
        have hq2 : H2 q = H1 q := by
          obtain ⟨o, ho⟩ := Option.ne_none_iff_exists'.mp own.ne
          rw [ho]
          exact e2.same q o (fun z => nq (.inr (.inl z))) ho
        have own2 : OwnR M ags2 (fun a => exs O ags2 W a ∨ a = q) H2 d1 q := by
          refine OwnR.le (Ex := fun a => exs O ags1 W a ∨ a = q) ⟨e2.pre, fun a ha z => ?_, fun a o n h => e2.same a o (fun z => n (.inl (.inr (.inl z)))) h⟩ hq2 own
          rcases z with (z | z | z) | z
          · exact .inl (.inl z)
          · rcases e2.new a z with z | z
            · exact .inl (.inr (.inl z))
            · exact absurd z ha
          · exact .inl (.inr (.inr z))
          · exact .inr z
        obtain ⟨W', sit', bs', hW⟩ := own_sit (i := i) sit (e1.trans e2 r1) r2' hd (.inr ⟨q, rfl, hq, nq2, own2⟩)
        have rvv : VR M ags2 (exs O ags2 W') H2 y v2 := by
          refine VR.le ⟨List.prefix_refl _, fun a _ z => ?_, fun a o _ h => h⟩ _ _ rv2
          rcases z with z | z | ⟨k, z⟩
          · exact .inl (.inl z)
          · exact .inr (.inl z)
          · rcases hW k a z with z | z
            · exact .inr (.inr ⟨k, z⟩)
            · cases z; exact .inl (.inr rfl)
        exact fin _ v2 _ _ _ _ _ (sit'.set j rvv) (bs.trans bs') h2
  · refine ⟨O, ags1, W, σ, S1, sit1, (SPost.gt sit1 bs1 h1).imp fun y S2 ags2 H2 e2 r2 h2 v2 rv2 => ?_⟩
    rw [if_neg fun z => hd z.1] at h2
    exact h2.elim
/-- a thing that was kept from all becomes this frame's own -/
theorem Sit.takeD {i : Nat} {O : Adr} {ags : List Addr} {W : Nat → Option Addr} {σ : Sg} {S : List D} {σV : L2.St} {H : Hp} {d : D} {q : Addr} (s : Sit M (OD O q) ags W σ S σV H) (nq : ¬ exs O ags W q) (own : OwnR M ags (fun a => exs O ags W a ∨ a = q) H d q) :
    ∃ W', Sit M O ags W' (σ.set i (.own d)) S (σV.set i (some (.ref q))) H ∧ ∀ k a, W' k = some a → W k = some a ∨ a = q := by
  let W' : Nat → Option Addr := fun j => if j = i then some q else W j
  have hWi : W' i = some q := if_pos rfl
  have hWj : ∀ j, j ≠ i → W' j = W j := fun j hj => if_neg hj
  have sub : ∀ a, exs O ags W' a → exs (OD O q) ags W a := fun a z => by
    rcases z with z | z | ⟨k, z⟩
    · exact .inl (.inl z)
    · exact .inr (.inl z)
    · by_cases hk : k = i
      · subst hk
        rw [hWi] at z
        cases z
        exact .inl (.inr rfl)
      · rw [hWj k hk] at z
        exact .inr (.inr ⟨k, z⟩)
  have r' : SR M O ags W' H S := s.sto.dropD.reW fun j a hw => by
    by_cases hj : j = i
    · subst hj
      rw [hWi] at hw
      cases hw
      exact ⟨fun z => nq (.inl z), fun z => nq (.inr (.inl z)), own.ob⟩
    · rw [hWj j hj] at hw
      exact ⟨(s.sto.dropD.wn j a hw).1, (s.sto.wn j a hw).2.1, s.sto.wo j a hw⟩
  have l : Le ags (exs (OD O q) ags W) H ags (exs O ags W') H := ⟨List.prefix_refl _, fun a _ z => sub a z, fun a o _ h => h⟩
  have own' : OwnR M ags (exs O ags W') H d q := OwnR.le (Ex := fun a => exs O ags W a ∨ a = q) ⟨List.prefix_refl _, fun a _ z => by
    rcases sub a z with (z | z) | z | z
    · exact .inl (.inl z)
    · exact .inr z
    · exact .inl (.inr (.inl z))
    · exact .inl (.inr (.inr z)), fun a o _ h => h⟩ rfl own
  refine ⟨W', ⟨by rw [List.length_set, List.length_set]; exact s.len, fun j e hj => ?_, fun j e hj => ?_, fun j k a hj hk => ?_, r'⟩, fun k a hw => ?_⟩
  · rw [List.getElem?_set] at hj
    by_cases hij : i = j
    · subst hij
      rw [if_pos rfl] at hj
      split at hj <;> cases hj
    · rw [if_neg hij] at hj
      obtain ⟨w, e1, r⟩ := s.val j e hj
      exact ⟨w, by rw [List.getElem?_set_ne hij]; exact e1, VR.le l _ _ r⟩
  · rw [List.getElem?_set] at hj
    by_cases hij : i = j
    · subst hij
      rw [if_pos rfl] at hj
      split at hj
      · rename_i hl
        cases hj
        exact ⟨q, hWi, by rw [List.getElem?_set_self (by rw [s.len]; exact hl)], own'⟩
      · cases hj
    · rw [if_neg hij] at hj
      obtain ⟨a, hw, e1, r⟩ := s.own j e hj
      exact ⟨a, by rw [hWj j (Ne.symm hij)]; exact hw, by rw [List.getElem?_set_ne hij]; exact e1, OwnR.le l rfl r⟩
  · have nW : ∀ j, W j ≠ some q := fun j z => nq (.inr (.inr ⟨j, z⟩))
    by_cases e1 : j = i
    · by_cases e2 : k = i
      · rw [e1, e2]
      · subst e1
        rw [hWi] at hj
        rw [hWj k e2] at hk
        cases hj
        exact absurd hk (nW k)
    · by_cases e2 : k = i
      · subst e2
        rw [hWi] at hk
        rw [hWj j e1] at hj
        cases hk
        exact absurd hj (nW j)
      · rw [hWj j e1] at hj
        rw [hWj k e2] at hk
        exact s.inj j k a hj hk
  · by_cases hk : k = i
    · subst hk
      rw [hWi] at hw
      cases hw
      exact .inr rfl
    · rw [hWj k hk] at hw
      exact .inl hw
theorem core_parQ {i j : Nat} {O : Adr} {bb : Ba} {ags : List Addr} {W : Nat → Option Addr} {σ : Sg} {S : List D} {σV : L2.St} {H : Hp} {Dd : Ends} {QQ : List V → Hp → Prop} (hij : i ≠ j) (sit : Sit M O ags W σ S σV H) (bs : Bs bb.ags bb.W bb.H ags W H) (h : SPost M O Wx Dd bb (exS G (.parQ i j ca cb) σ S))
    (fin : ∀ v1 v2 ags2 W2 H2 σ2 S2, Sit M O ags2 W2 σ2 S2 ((σV.set i (some v1)).set j (some v2)) H2 → Bs bb.ags bb.W bb.H ags2 W2 H2 → SPost M O Wx Dd bb (.ok (.nx, σ2) S2) → QQ [v1, v2] H2) : tCons (tE G M Wx .frs ca) (tCons (tE G M Wx .frs cb) tNil) σV H QQ := by
  simp only [exS] at h
  refine ⟨O, ags, W, σ, S, sit, (SPost.gt sit bs h).imp fun d1 S1 ags1 H1 e1 r1 h1 v1 rv1 => ?_⟩
  have sit1 := sit.ext e1 r1
  have bs1 := bs.ext e1 r1
  by_cases hd : isOb d1 = true
  · replace rv1 : RelF M O H ags1 W H1 d1 v1 := rv1
    rcases rv1 with ⟨hno, _⟩ | ⟨q, rfl, hq, nq, own⟩
    · rw [hno] at hd; cases hd
    · have rD := r1.addO nq own.ob
      have l : Le ags (exs O ags W) H ags1 (exs (OD O q) ags1 W) H1 := by
        refine ⟨e1.pre, fun a ha z => ?_, fun a o n h => e1.same a o (fun z => n (.inr (.inl z))) h⟩
        rcases z with (z | z) | z | z
        · exact .inl z
        · exact absurd (z ▸ hq) ha
        · rcases e1.new a z with z | z
          · exact .inr (.inl z)
          · exact absurd z ha
        · exact .inr (.inr z)
      have sitD := sit.extL l (fun k a hw => by
        obtain ⟨o, ho⟩ := Option.ne_none_iff_exists'.mp (sit.sto.wn k a hw).2.2
        rw [ho]
        exact e1.same a o (sit.sto.wn k a hw).2.1 ho) rD
      refine ⟨OD O q, ags1, W, σ, S1, sitD, ?_⟩
      cases hy : evE G cb σ S1 with
      | stuck => rw [hy] at h1; exact h1
      | exc e S2 =>
        rw [hy] at h1
        intro ags2 H2 cls dx e2 r2 x2
        refine h1 ags2 W σV H2 (sit1.ext e2 r2.dropD) (bs1.ext e2 r2.dropD) cls dx ?_
        cases e with
        | exc c fs =>
          obtain ⟨C, ns, vs, a, q1, q2, q3, q4, q5, q6, q7⟩ := x2
          refine ⟨C, ns, vs, a, q1, q2, q3, fun z => q4 ?_, q5, q6, VRs.le ⟨List.prefix_refl _, fun b _ z => ?_, fun b u _ z => z⟩ _ _ q7⟩
          · rcases z with z | z
            · exact .inl (.inl z)
            · exact .inr z
          · rcases z with z | z
            · exact .inl (.inl z)
            · exact .inr z
        | _ => exact x2.elim
      | ok y S2 =>
        rw [hy] at h1
        intro ags2 H2 e2 r2 v2 rv2
        have rv2 : RelF M (OD O q) H1 ags2 W H2 y v2 := rv2
        have h2 : SPost M O Wx Dd bb (if isOb d1 = true ∧ isOb y = true ∧ i ≠ j then .ok (.nx, (σ.set i (.own d1)).set j (.own y)) S2 else .stuck) := h1
        split at h2
        · rename_i hc
          obtain ⟨WJ, sitJ, bsJ, hWJ⟩ := own_sit (i := j) sitD e2 r2 hc.2.1 rv2
          have hv2 : ∃ p2, v2 = .ref p2 ∧ p2 ≠ q := by
            rcases rv2 with ⟨hno, _⟩ | ⟨p2, rfl, _, np2, _⟩
            · rw [hno] at hc; cases hc.2.1
            · exact ⟨p2, rfl, fun e => np2 (.inl (.inr e))⟩
          obtain ⟨p2, rfl, hpq⟩ := hv2
          have nq2 : ¬ exs O ags2 WJ q := by
            rintro (z | z | ⟨k, z⟩)
            · exact nq (.inl z)
            · rcases e2.new q z with z | z
              · exact nq (.inr (.inl z))
              · exact own.ne z
            · rcases hWJ k q z with z | z
              · exact nq (.inr (.inr ⟨k, z⟩))
              · cases z; exact hpq rfl
          have hq2 : H2 q = H1 q := by
            obtain ⟨o, ho⟩ := Option.ne_none_iff_exists'.mp own.ne
            rw [ho]
            exact e2.same q o (fun z => nq (.inr (.inl z))) ho
          have own2 : OwnR M ags2 (fun a => exs O ags2 WJ a ∨ a = q) H2 d1 q := by
            refine OwnR.le (Ex := fun a => exs O ags1 W a ∨ a = q) ⟨e2.pre, fun a ha z => ?_, fun a o n h => e2.same a o (fun z => n (.inl (.inr (.inl z)))) h⟩ hq2 own
            rcases z with (z | z | ⟨k, z⟩) | z
            · exact .inl (.inl z)
            · rcases e2.new a z with z | z
              · exact .inl (.inr (.inl z))
              · exact absurd z ha
            · rcases hWJ k a z with z | z
              · exact .inl (.inr (.inr ⟨k, z⟩))
              · cases z
                exfalso
                rcases rv2 with ⟨hno, _⟩ | ⟨p3, e3, hp3, _, _⟩
                · rw [hno] at hc; cases hc.2.1
                · cases e3; exact ha hp3
            · exact .inr z
          obtain ⟨W', sit', hW'⟩ := Sit.takeD (i := i) sitJ nq2 own2
          rw [List.set_comm _ _ (Ne.symm hij), List.set_comm _ _ (Ne.symm hij)] at sit'
          refine fin _ _ _ _ _ _ _ sit' ?_ h2
          have e12 := e1.trans e2 r1
          have dropS := sitJ.sto.dropD
          refine bs.trans ⟨e12.pre, fun a o n _ k => e12.same a o n k, e12.new, fun k a hw => ?_, fun a ha => e12.dom dropS ha⟩
          rcases hW' k a hw with z | z
          · rcases hWJ k a z with z | z
            · exact .inl ⟨k, z⟩
            · cases z
              rcases rv2 with ⟨hno, _⟩ | ⟨p3, e3, hp3, _, _⟩
              · rw [hno] at hc; cases hc.2.1
              · cases e3
                refine .inr ?_
                cases hH : H p2 with
                | none => rfl
                | some o =>
                  by_cases ha : p2 ∈ ags
                  · exact absurd hp3 (r1.adom (e1.pre.subset ha))
                  · have := e1.same p2 o ha hH
                    rw [hp3] at this
                    cases this
          · rw [z]; exact .inr hq
        · exact h2.elim
  · refine ⟨O, ags1, W, σ, S1, sit1, (SPost.gt sit1 bs1 h1).imp fun y S2 ags2 H2 e2 r2 h2 v2 rv2 => ?_⟩
    rw [if_neg fun z => hd z.1] at h2
    exact h2.elim
theorem f_parQ {i j : Nat} {px py pt p2 : Pos} {kt k2 : Nat} (Z : Cz z X M G Wx) (h1 : locN z i x = true) (h2 : locN z j y = true) (hij : i ≠ j) (ha : PE X a (tE G M Wx .frs ca)) (hb : PE X b (tE G M Wx .frs cb)) (hsa : notStar a = true) (hsb : notStar b = true) (hl : (px.line == py.line) = true) (hk : z.sc.kind = .function)
    (hf : [a, b].all (foldedForSure 8) = false) (hc : [a, b].all (constantsAlone 8) = false) : PS X (.Assign [.Tuple [.Name x px, .Name y py] kt pt] (.Tuple [a, b] k2 p2) pos) (tS G M Wx (.parQ i j ca cb)) := by
  obtain ⟨n1, l1⟩ := locN_of Z h1
  obtain ⟨n2, l2⟩ := locN_of Z h2
  refine PS.imp (ps_par Z.calm Z.nd n1 n2 hij l1 l2 (pa_cons ha (pa_cons hb pa_nil (star_of hsb)) (star_of hsa)) (swS2 (blk_of Z.env hk) l1 l2 hl (nd_ne Z hij n1 n2) hsa hsb hf hc) rfl) fun Dd σV H h => ?_
  obtain ⟨O, bb, ags, W, σ, S, sit, bs, h⟩ := h
  exact core_parQ hij sit bs h fun v1 v2 ags2 W2 H2 σ2 S2 sit' bs' h2 => ⟨v1, v2, rfl, SPost.ok sit' bs' h2⟩
theorem f_parP {i j : Nat} {px py pt p2 : Pos} {kt k2 : Nat} (Z : Cz z X M G Wx) (h1 : locN z i x = true) (h2 : locN z j y = true) (hij : i ≠ j) (ha : PE X a (tE G M Wx .frs ca)) (hb : PE X b (tE G M Wx .cap cb)) (hsa : notStar a = true) (hsb : notStar b = true) (hl : (px.line == py.line) = true) (hk : z.sc.kind = .function)
    (hf : [a, b].all (foldedForSure 8) = false) (hc : [a, b].all (constantsAlone 8) = false) : PS X (.Assign [.Tuple [.Name x px, .Name y py] kt pt] (.Tuple [a, b] k2 p2) pos) (tS G M Wx (.parP i j ca cb)) := by
  obtain ⟨n1, l1⟩ := locN_of Z h1
  obtain ⟨n2, l2⟩ := locN_of Z h2
  refine PS.imp (ps_par Z.calm Z.nd n1 n2 hij l1 l2 (pa_cons ha (pa_cons hb pa_nil (star_of hsb)) (star_of hsa)) (swS2 (blk_of Z.env hk) l1 l2 hl (nd_ne Z hij n1 n2) hsa hsb hf hc) rfl) fun Dd σV H h => ?_
  obtain ⟨O, bb, ags, W, σ, S, sit, bs, h⟩ := h
  exact core_parP hij sit bs h fun v1 v2 ags2 W2 H2 σ2 S2 sit' bs' h2 => ⟨v1, v2, rfl, SPost.ok sit' bs' h2⟩
theorem g_two {i j : Nat} {px py : Pos} (Z : Cz z X M G Wx) (h1 : z.N[i]? = some x) (l1 : locB z x = true) (h2 : z.N[j]? = some y) (l2 : locB z y = true) {k : Nat} : PG X (.Tuple [.Name x px, .Name y py] k pos) (gTup X.K 2 (gCons (gName i) (gCons (gName j) gNil))) := by
  obtain ⟨a1, b1⟩ := locB_of l1 Z.env Z.fnb
  obtain ⟨a2, b2⟩ := locB_of l2 Z.env Z.fnb
  exact pg_tup Z.calm (pgs_cons (pg_name Z.nd (by rw [Z.N]; exact h1) a1 b1) (pgs_cons (pg_name Z.nd (by rw [Z.N]; exact h2) a2 b2) pgs_nil))
theorem f_parPT {i j : Nat} {px py pt p2 : Pos} {kt k2 : Nat} (Z : Cz z X M G Wx) (h1 : z.N[i]? = some x) (l1 : locB z x = true) (h2 : z.N[j]? = some y) (l2 : locB z y = true) (hij : i ≠ j) (hs : strB z.sc (.Tuple [.Name x px, .Name y py] kt pt) (.Tuple [a, b] k2 p2) = true) (ha : PE X a (tE G M Wx .frs ca)) (hb : PE X b (tE G M Wx .cap cb)) (hsa : notStar a = true) (hsb : notStar b = true) :
    PS X (.Assign [.Tuple [.Name x px, .Name y py] kt pt] (.Tuple [a, b] k2 p2) pos) (tS G M Wx (.parP i j ca cb)) := by
  refine PS.imp (ps_asg (pe_tup (pa_cons ha (pa_cons hb pa_nil (star_of hsb)) (star_of hsa))) (g_two Z h1 l1 h2 l2) rfl (swN Z.env hs) rfl) fun Dd σV H h => ?_
  obtain ⟨O, bb, ags, W, σ, S, sit, bs, h⟩ := h
  have core := core_parP (cb := cb) (QQ := fun vs H1 => vs.length ≤ sizeLine ∧ ∀ q, H1 q = none → gTup X.K 2 (gCons (gName i) (gCons (gName j) gNil)) (.ref q) σV (upd H1 q (.tup vs)) Dd.nx) hij sit bs h fun v1 v2 ags2 W2 H2 σ2 S2 sit' bs' h2 => ?_
  · exact core
  refine ⟨by show 2 ≤ sizeLine; decide, fun q hq => ⟨q, [v1, v2], rfl, .inl (.inl upd_same), rfl, v1, [v2], rfl, v2, [], rfl, rfl, ?_⟩⟩
  exact SPost.ok (sit'.ext (Ext.upd hq) (sit'.sto.upd hq)) (bs'.ext (Ext.upd hq) (sit'.sto.upd hq)) h2
theorem f_parQT {i j : Nat} {px py pt p2 : Pos} {kt k2 : Nat} (Z : Cz z X M G Wx) (h1 : z.N[i]? = some x) (l1 : locB z x = true) (h2 : z.N[j]? = some y) (l2 : locB z y = true) (hij : i ≠ j) (hs : strB z.sc (.Tuple [.Name x px, .Name y py] kt pt) (.Tuple [a, b] k2 p2) = true) (ha : PE X a (tE G M Wx .frs ca)) (hb : PE X b (tE G M Wx .frs cb)) (hsa : notStar a = true) (hsb : notStar b = true) :
    PS X (.Assign [.Tuple [.Name x px, .Name y py] kt pt] (.Tuple [a, b] k2 p2) pos) (tS G M Wx (.parQ i j ca cb)) := by
  refine PS.imp (ps_asg (pe_tup (pa_cons ha (pa_cons hb pa_nil (star_of hsb)) (star_of hsa))) (g_two Z h1 l1 h2 l2) rfl (swN Z.env hs) rfl) fun Dd σV H h => ?_
  obtain ⟨O, bb, ags, W, σ, S, sit, bs, h⟩ := h
  have core := core_parQ (cb := cb) (QQ := fun vs H1 => vs.length ≤ sizeLine ∧ ∀ q, H1 q = none → gTup X.K 2 (gCons (gName i) (gCons (gName j) gNil)) (.ref q) σV (upd H1 q (.tup vs)) Dd.nx) hij sit bs h fun v1 v2 ags2 W2 H2 σ2 S2 sit' bs' h2 => ?_
  · exact core
  refine ⟨by show 2 ≤ sizeLine; decide, fun q hq => ⟨q, [v1, v2], rfl, .inl (.inl upd_same), rfl, v1, [v2], rfl, v2, [], rfl, rfl, ?_⟩⟩
  exact SPost.ok (sit'.ext (Ext.upd hq) (sit'.sto.upd hq)) (bs'.ext (Ext.upd hq) (sit'.sto.upd hq)) h2
theorem f_parOT {i j : Nat} {px py pt p2 : Pos} {kt k2 : Nat} (Z : Cz z X M G Wx) (h1 : z.N[i]? = some x) (l1 : locB z x = true) (h2 : z.N[j]? = some y) (l2 : locB z y = true) (hij : i ≠ j) (hs : strB z.sc (.Tuple [.Name x px, .Name y py] kt pt) (.Tuple [a, b] k2 p2) = true) (ha : PE X a (tE G M Wx .cap ca)) (hb : PE X b (tE G M Wx .frs cb)) (hsa : notStar a = true) (hsb : notStar b = true) :
    PS X (.Assign [.Tuple [.Name x px, .Name y py] kt pt] (.Tuple [a, b] k2 p2) pos) (tS G M Wx (.parO i j ca cb)) := by
  refine PS.imp (ps_asg (pe_tup (pa_cons ha (pa_cons hb pa_nil (star_of hsb)) (star_of hsa))) (g_two Z h1 l1 h2 l2) rfl (swN Z.env hs) rfl) fun Dd σV H h => ?_
  obtain ⟨O, bb, ags, W, σ, S, sit, bs, h⟩ := h
  simp only [exS] at h
  refine ⟨O, ags, W, σ, S, sit, (SPost.gt sit bs h).imp fun d1 S1 ags1 H1 e1 r1 h1 v1 rv1 => ?_⟩
  have sit1 := sit.ext e1 r1
  have bs1 := bs.ext e1 r1
  refine ⟨O, ags1, W, σ, S1, sit1, (SPost.gt sit1 bs1 h1).imp fun d2 S2 ags2 H2 e2 r2 h2 v2 rv2 => ?_⟩
  split at h2
  · rename_i hd
    obtain ⟨W', sit', bs', _⟩ := own_sit (i := j) (sit1.set i (d := d1) rv1) e2 r2 hd rv2
    refine ⟨by show 2 ≤ sizeLine; decide, fun q hq => ⟨q, [v1, v2], rfl, .inl (.inl upd_same), rfl, v1, [v2], rfl, v2, [], rfl, rfl, ?_⟩⟩
    exact SPost.ok (sit'.ext (Ext.upd hq) (sit'.sto.upd hq)) ((bs1.trans bs').ext (Ext.upd hq) (sit'.sto.upd hq)) h2
  · exact h2.elim
theorem f_par3 {i j l : Nat} {px py pw pt p2 : Pos} {kt k2 : Nat} (Z : Cz z X M G Wx) (h1 : locN z i x = true) (h2 : locN z j y = true) (h3 : locN z l w = true) (hij : i ≠ j) (hil : i ≠ l) (hjl : j ≠ l) (ha : PA X [a, b, c] (tA G M Wx true ces)) (hsa : notStar a = true) (hsb : notStar b = true) (hsc : notStar c = true)
    (hl : (px.line == py.line) = true) (hl2 : (px.line == pw.line) = true) (hk : z.sc.kind = .function) (hf : [a, b, c].all (foldedForSure 8) = false) (hc : [a, b, c].all (constantsAlone 8) = false) :
    PS X (.Assign [.Tuple [.Name x px, .Name y py, .Name w pw] kt pt] (.Tuple [a, b, c] k2 p2) pos) (tS G M Wx (.par [i, j, l] ces)) := by
  obtain ⟨n1, l1⟩ := locN_of Z h1
  obtain ⟨n2, l2⟩ := locN_of Z h2
  obtain ⟨n3, l3⟩ := locN_of Z h3
  refine PS.imp (ps_par3 Z.calm Z.nd n1 n2 n3 hij hil hjl l1 l2 l3 ha (swS3 (blk_of Z.env hk) l1 l2 l3 hl hl2 (nd_ne Z hij n1 n2) (nd_ne Z hil n1 n3) (nd_ne Z hjl n2 n3) hsa hsb hsc hf hc) rfl) fun Dd σV H h => ?_
  obtain ⟨O, bb, ags, W, σ, S, sit, bs, h⟩ := h
  simp only [exS] at h
  refine ⟨O, ags, W, σ, S, sit, (SPost.gt sit bs h).imp fun ds S1 ags1 H1 e1 r1 h1 vs rvs => ?_⟩
  have rvs : VRs M ags1 (exs O ags1 W) H1 ds vs := rvs
  match ds, h1, rvs with
  | [d1, d2, d3], h1, rvs =>
    obtain ⟨v1, t1, rfl, q1, v2, t2, rfl, q2, v3, t3, rfl, q3, e⟩ := rvs
    cases (show t3 = [] from e)
    exact ⟨v1, v2, v3, rfl, SPost.ok ((((sit.ext e1 r1).set i q1).set j q2).set l q3) (bs.ext e1 r1) h1⟩
  | [], h1, _ => exact h1.elim
  | [_], h1, _ => exact h1.elim
  | [_, _], h1, _ => exact h1.elim
  | _ :: _ :: _ :: _ :: _, h1, _ => exact h1.elim

/-! ### loops -/
theorem SPost.last {O : Adr} {Dd D' : Ends} {b b' : Ba} {N : L2.St → Hp → Prop} {r : R (Fl × Sg)} {g : Sg → List D → R (Fl × Sg)} (hbb : Bs b.ags b.W b.H b'.ags b'.W b'.H) (hD : D' = { Dd with nx := N, ct := N, bk := Dd.nx })
    (hN : ∀ σ S ags W σV H, SPost M O Wx Dd b (g σ S) → Sit M O ags W σ S σV H → Bs b'.ags b'.W b'.H ags W H → N σV H)
    (h : SPost M O Wx Dd b (r.bnd fun q S1 => match q.1 with
      | .nx => g q.2 S1
      | .ct => g q.2 S1
      | .bk => .ok (.nx, q.2) S1
      | .rt d => .ok (.rt d, q.2) S1
      | .xc d => .ok (.xc d, q.2) S1)) : SPost M O Wx D' b' r := by
  subst hD
  cases r with
  | ok q S =>
    obtain ⟨fl, σ⟩ := q
    cases fl with
    | nx => exact fun ags W σV H sit bs => hN _ _ _ _ _ _ h sit bs
    | ct => exact fun ags W σV H sit bs => hN _ _ _ _ _ _ h sit bs
    | bk => exact fun ags W σV H sit bs => h _ _ _ _ sit (hbb.trans bs)
    | rt d => exact fun ags W σV H sit bs => h _ _ _ _ sit (hbb.trans bs)
    | xc d => exact fun ags W σV H sit bs => h _ _ _ _ sit (hbb.trans bs)
  | exc e S => exact h
  | stuck => exact h
theorem f_for {iter : Expr} {body : List Stmt} {t : Tg} {it : Iq} {sb : Sms} (Z : Cs z X M G Wx) (hns : notSet iter = true) (hi : PI X tg iter (tI G M Wx it)) (hg : PG X tg (tG M t)) (hb : PSs X body (tSs G M Wx sb)) : PS X (.For tg iter body [] pos) (tS G M Wx (.for_ t it sb)) := by
  refine PS.imp (ps_for Z.po Z.cz.calm hi hg hb (fold_of hns)) fun Dd σV H h => ?_
  obtain ⟨O, b, ags, W, σ, S, sit, bs, h⟩ := h
  simp only [exS] at h
  refine ⟨O, ags, W, σ, S, sit, (SPost.gt sit bs h).imp fun xs S1 ags1 H1 e1 r1 h1 J hlen hJ => ?_⟩
  have sit1 := sit.ext e1 r1
  have bs1 := bs.ext e1 r1
  refine ⟨fun i m σV' H' => m = xs.length - i ∧ i ≤ xs.length ∧ ∃ ags' W' σ' S', Sit M O ags' W' σ' S' σV' H' ∧ Bs ags1 W H1 ags' W' H' ∧ SPost M O Wx Dd b (forGo t (fun σ S => exSs G sb σ S) (xs.drop i) σ' S'),
    ⟨xs.length, rfl, Nat.zero_le _, ags1, W, σ, S1, sit1, Bs.refl, by rw [List.drop_zero]; exact h1⟩, ?_⟩
  rintro i m σV2 H2 ⟨rfl, hi', ags2, W2, σ2, S2, sit2, bs2, h2⟩
  have dom : ∀ a, exs O ags2 W2 a → H2 a ≠ none := fun a ha => sit2.sto.edom ha
  obtain ⟨jstop, jgo⟩ := hJ ags2 _ H2 bs2.le dom i
  by_cases hlt : i < xs.length
  · obtain ⟨d, hd⟩ : ∃ d, xs[i]? = some d := ⟨xs[i], List.getElem?_eq_getElem hlt⟩
    obtain ⟨go, yld⟩ := jgo d hd
    have hdrop : xs.drop i = d :: xs.drop (i + 1) := by
      rw [List.drop_eq_getElem_cons hlt]
      have : xs[i] = d := (List.getElem?_eq_some_iff.mp hd).2
      rw [this]
    rw [hdrop] at h2
    unfold forGo at h2
    cases hset : setT t d σ2 with
    | none => rw [hset] at h2; exact h2.elim
    | some σ3 =>
      rw [hset] at h2
      refine .inr ⟨go, fun σV' H' => ∃ ags' W' σ' S', Sit M O ags' W' σ' S' σV' H' ∧ Bs ags1 W H1 ags' W' H' ∧ SPost M O Wx Dd b (forGo t (fun σ S => exSs G sb σ S) (xs.drop (i + 1)) σ' S'),
        fun σV' H' q => ⟨xs.length - (i + 1), by omega, rfl, hlt, q⟩, fun x H' hy => ?_⟩
      obtain ⟨vr, hH⟩ := yld x H' hy
      have st : Ext ags2 H2 ags2 H' ∧ SR M O ags2 W2 H' S2 := by
        rcases hH with rfl | ⟨p, o, hp, rfl⟩
        · exact ⟨Ext.refl, sit2.sto⟩
        · exact ⟨Ext.upd hp, sit2.sto.upd hp⟩
      obtain ⟨e3, r3⟩ := st
      have bs3 := bs2.ext e3 r3
      refine ⟨O, ags2, W2, σ2, S2, d, σ3, sit2.ext e3 r3, vr, hset, fun σV3 sit3 _ => ?_⟩
      refine ⟨O, ⟨ags1, W, H1⟩, ags2, W2, σ3, S2, sit3, bs3, ?_⟩
      exact SPost.last (b := b) (g := fun σ S => forGo t (fun σ S => exSs G sb σ S) (xs.drop (i + 1)) σ S) bs1 rfl (fun σ S ags W σV H q sit bs => ⟨ags, W, σ, S, sit, bs, q⟩) h2
  · have hi2 : i = xs.length := by omega
    subst hi2
    rw [List.drop_length] at h2
    unfold forGo at h2
    exact .inl ⟨jstop (Nat.le_refl _), SPost.ok sit2 (bs1.trans bs2) h2⟩
theorem f_whl {body : List Stmt} {sb : Sms} (Z : Cs z X M G Wx) (hc : PT X c (tT G M Wx cc)) (hb : PSs X body (tSs G M Wx sb)) : PS X (.While c body [] pos) (tS G M Wx (.whl cc sb)) := by
  refine PS.imp (ps_while Z.po hc hb) fun Dd σV H h => ?_
  obtain ⟨O, b, ags, W, σ, S, sit, bs, h⟩ := h
  simp only [exS] at h
  refine ⟨fun m σV' H' => ∃ ags' W' σ' S', Sit M O ags' W' σ' S' σV' H' ∧ Bs b.ags b.W b.H ags' W' H' ∧ SPost M O Wx Dd b (whlGo (fun σ S => evT G cc σ S) (fun σ S => exSs G sb σ S) m σ' S'), ⟨turns, ags, W, σ, S, sit, bs, h⟩, ?_⟩
  rintro m σV2 H2 ⟨ags2, W2, σ2, S2, sit2, bs2, h2⟩
  cases m with
  | zero => unfold whlGo at h2; exact h2.elim
  | succ m =>
    unfold whlGo at h2
    refine ⟨O, ags2, W2, σ2, S2, sit2, (SPost.gt sit2 bs2 h2).imp fun k S3 ags3 H3 e3 r3 h3 => ?_⟩
    have sit3 := sit2.ext e3 r3
    have bs3 := bs2.ext e3 r3
    cases k with
    | false => exact iteF (SPost.ok sit3 bs3 h3)
    | true =>
      refine iteT ⟨fun σV' H' => ∃ ags' W' σ' S', Sit M O ags' W' σ' S' σV' H' ∧ Bs b.ags b.W b.H ags' W' H' ∧ SPost M O Wx Dd b (whlGo (fun σ S => evT G cc σ S) (fun σ S => exSs G sb σ S) m σ' S'),
        fun σV' H' q => ⟨m, Nat.lt_succ_self m, q⟩, O, b, ags3, W2, σ2, S3, sit3, bs3, ?_⟩
      exact SPost.last (b := b) (g := fun σ S => whlGo (fun σ S => evT G cc σ S) (fun σ S => exSs G sb σ S) m σ S) Bs.refl rfl (fun σ S ags W σV H q sit bs => ⟨ags, W, σ, S, sit, bs, q⟩) h3

/-! ### suites -/
theorem fs_nil : PSs X [] (tSs G M Wx .nil) := by
  refine PSs.imp pss_nil fun Dd σV H h => ?_
  obtain ⟨O, b, ags, W, σ, S, sit, bs, h⟩ := h
  simp only [exSs] at h
  exact SPost.ok sit bs h
theorem fs_cons {st : Stmt} {xs : List Stmt} {s : Sm} {r : Sms} (h1 : PS X st (tS G M Wx s)) (h2 : PSs X xs (tSs G M Wx r)) : PSs X (st :: xs) (tSs G M Wx (.cons s r)) := by
  refine PSs.imp (pss_cons h1 h2) fun Dd σV H h => ?_
  obtain ⟨O, b, ags, W, σ, S, sit, bs, h⟩ := h
  simp only [exSs] at h
  refine ⟨O, b, ags, W, σ, S, sit, bs, ?_⟩
  cases hx : exS G s σ S with
  | ok q S1 =>
    rw [hx] at h
    obtain ⟨fl, σ1⟩ := q
    intro ags1 W1 σV1 H1 sit1 bs1
    cases fl with
    | nx => exact ⟨O, b, ags1, W1, σ1, S1, sit1, bs1, h⟩
    | bk => exact h _ _ _ _ sit1 bs1
    | ct => exact h _ _ _ _ sit1 bs1
    | rt d => exact h _ _ _ _ sit1 bs1
    | xc d => exact h _ _ _ _ sit1 bs1
  | exc e S1 => rw [hx] at h; exact h
  | stuck => rw [hx] at h; exact h
theorem fs_frz {xs : List Stmt} {i : Nat} {r : Sms} (h2 : PSs X xs (tSs G M Wx r)) : PSs X xs (tSs G M Wx (.cons (.frz i) r)) := by
  refine PSs.imp h2 fun Dd σV H h => ?_
  obtain ⟨O, b, ags, W, σ, S, sit, bs, h⟩ := h
  simp only [exSs, exS] at h
  split at h
  · rename_i d hown
    obtain ⟨q, hw, e1, own⟩ := sit.own i d hown
    have hil : i < σ.length := (List.getElem?_eq_some_iff.mp hown).1
    have w1 := sit.sto.wn i q hw
    let W' : Nat → Option Addr := fun j => if j = i then none else W j
    have hWi : W' i = none := if_pos rfl
    have hWj : ∀ j, j ≠ i → W' j = W j := fun j hj => if_neg hj
    have wsub : ∀ j a, W' j = some a → j ≠ i ∧ W j = some a := fun j a h => by
      by_cases hj : j = i
      · subst hj; rw [hWi] at h; cases h
      · exact ⟨hj, by rw [← hWj j hj]; exact h⟩
    have l : Le ags (exs O ags W) H ags (exs O ags W') H := by
      refine ⟨List.prefix_refl _, fun a _ z => ?_, fun a o _ h => h⟩
      rcases z with z | z | ⟨j, z⟩
      · exact .inl z
      · exact .inr (.inl z)
      · exact .inr (.inr ⟨j, (wsub j a z).2⟩)
    have nq : ¬ exs O ags W' q := by
      rintro (z | z | ⟨j, z⟩)
      · exact w1.1 z
      · exact w1.2.1 z
      · obtain ⟨z1, z2⟩ := wsub j q z
        exact z1 (sit.inj j i q z2 hw)
    have sit' : Sit M O ags W' (σ.set i (.val d)) S σV H := by
      refine ⟨by rw [List.length_set]; exact sit.len, fun j e hj => ?_, fun j e hj => ?_, fun j k a hj hk => sit.inj j k a (wsub j a hj).2 (wsub k a hk).2, sit.sto.reW fun j a hj => ⟨(sit.sto.wn j a (wsub j a hj).2).1, (sit.sto.wn j a (wsub j a hj).2).2.1, sit.sto.wo j a (wsub j a hj).2⟩⟩
      · by_cases hij : i = j
        · subst hij
          rw [List.getElem?_set_self hil] at hj
          cases hj
          exact ⟨_, e1, OwnR.vr nq (OwnR.le l rfl own)⟩
        · rw [List.getElem?_set_ne hij] at hj
          obtain ⟨u, k1, k2⟩ := sit.val j e hj
          exact ⟨u, k1, VR.le l _ _ k2⟩
      · by_cases hij : i = j
        · subst hij
          rw [List.getElem?_set_self hil] at hj
          cases hj
        · rw [List.getElem?_set_ne hij] at hj
          obtain ⟨a, k1, k2, k3⟩ := sit.own j e hj
          exact ⟨a, by rw [hWj j (Ne.symm hij)]; exact k1, k2, OwnR.le l rfl k3⟩
    exact ⟨O, b, ags, W', σ.set i (.val d), S, sit', bs.trans ⟨List.prefix_refl _, fun a o _ _ h => h, fun a h => .inl h, fun j a h => .inl ⟨j, (wsub j a h).2⟩, fun a h => h⟩, h⟩
  · exact ⟨O, b, ags, W, σ, S, sit, bs, h⟩
end
section
variable {M : Nm} {G : PV.Env}
theorem mT_star {z : Sx} {t : Tg} {e : Expr} (h : mT z t e = true) : notStar e = true := by
  cases t <;> cases e <;> first | rfl | cases h
mutual
theorem sS : ∀ (s : Sm) {z : Sx} {X : Cx} {Wx : WX} (Z : Cs z X M G Wx) (st : Stmt), mS z s st = true → PS X st (tS G M Wx s)
  | .asg t e, z, X, Wx, Z, st, h => by
    cases st <;> first | (cases h; done) | skip
    rename_i tgs v p
    match tgs, h with
    | [tg], h =>
      have h : (mT z t tg && mE z e v && cap e && ((notComp v && strB z.sc tg v) || (isLc e && lcN z.sc v tg))) = true := h
      simp only [Bool.and_eq_true, Bool.or_eq_true] at h
      obtain ⟨⟨⟨h1, h2⟩, h3⟩, h4⟩ := h
      have hg : PG X tg (tG M t) := sG Z.cz.calm Z.cz.nd Z.cz.N Z.cz.env Z.cz.fnb t tg h1
      rcases h4 with h4 | h4
      · exact s_asg Z.cz h3 h4.1 h4.2 (mT_star h1) (sE e Z.cz v .cap h2 h3) hg
      · have h4l := h4.1
        replace h4 := h4.2
        cases tg <;> first | (cases h4; done) | skip
        rename_i y py
        cases t <;> first | (cases h1; done) | skip
        rename_i i _
        have h1 : (z.N[i]? == some y && locB z y && nmOk y) = true := h1
        simp only [Bool.and_eq_true, beq_iff_eq] at h1
        exact f_asg (s_name Z.cz h1.1.1 h1.1.2 h2 h3 (by rw [Bool.or_eq_true, Bool.and_eq_true]; exact .inr ⟨h4l, h4⟩))
    | [], h => cases h
    | _ :: _ :: _, h => cases h
  | .asgO i e, z, X, Wx, Z, st, h => by
    cases st <;> first | (cases h; done) | skip
    rename_i tgs v p
    match tgs, h with
    | [tg], h =>
      cases tg <;> first | (cases h; done) | skip
      rename_i x px
      have h : (z.N[i]? == some x && locB z x && mE z e v && frsh e && (notComp v || (isLc e && lcB z.sc x px v))) = true := h
      simp only [Bool.and_eq_true, beq_iff_eq] at h
      obtain ⟨⟨⟨⟨h1, h2⟩, h3⟩, h4⟩, h5⟩ := h
      exact f_asgO (s_name Z.cz h1 h2 h3 h4 h5)
    | [], h => cases h
    | t1 :: _ :: _, h => cases t1 <;> cases h
  | .par ts es, z, X, Wx, Z, st, h => by
    unfold mS at h
    split at h <;> first | (cases h; done) | skip
    all_goals first | (exact Sm.noConfusion ‹_›) | skip
    · rename_i heq
      cases heq
      simp only [Bool.and_eq_true, bne_iff_ne, ne_eq, Bool.not_eq_true', beq_iff_eq] at h
      obtain ⟨⟨⟨⟨⟨⟨⟨⟨h1, h2⟩, h3⟩, h4⟩, h5⟩, h6⟩, h7⟩, h8⟩, h9⟩ := h
      have ha := sEs es Z.cz _ true h4 (fun _ => h5) (fun q => nomatch q)
      match es, h4, ha with
      | .cons c1 (.cons c2 r), h4, ha =>
        simp only [mEs, Bool.and_eq_true] at h4
        exact f_par2 Z.cz h1 h2 h3 ha h4.1.1 h4.2.1.1 (by rw [beq_iff_eq]; exact h6) h7 h8 h9
      | .nil, h4, _ => simp [mEs] at h4
      | .cons _ .nil, h4, _ => simp [mEs] at h4
    · rename_i heq
      cases heq
      simp only [Bool.and_eq_true, bne_iff_ne, ne_eq, Bool.not_eq_true', beq_iff_eq] at h
      obtain ⟨⟨⟨⟨⟨⟨⟨⟨⟨⟨⟨⟨h1, h2⟩, h3⟩, h4⟩, h5⟩, h6⟩, h7⟩, h8⟩, h9⟩, h10⟩, h11⟩, h12⟩, h13⟩ := h
      have ha := sEs es Z.cz _ true h7 (fun _ => h8) (fun q => nomatch q)
      match es, h7, ha with
      | .cons c1 (.cons c2 (.cons c3 r)), h7, ha =>
        simp only [mEs, Bool.and_eq_true] at h7
        exact f_par3 Z.cz h1 h2 h3 h4 h5 h6 ha h7.1.1 h7.2.1.1 h7.2.2.1.1 (by rw [beq_iff_eq]; exact h9) (by rw [beq_iff_eq]; exact h10) h11 h12 h13
      | .nil, h7, _ => simp [mEs] at h7
      | .cons _ .nil, h7, _ => simp [mEs] at h7
      | .cons _ (.cons _ .nil), h7, _ => simp [mEs] at h7
  | .aug i e, z, X, Wx, Z, st, h => by
    cases st <;> first | (cases h; done) | skip
    rename_i tg op v p
    cases tg <;> first | (cases h; done) | skip
    rename_i x px
    cases op <;> first | (cases h; done) | skip
    have h : (z.N[i]? == some x && locB z x && mE z e v) = true := h
    simp only [Bool.and_eq_true, beq_iff_eq] at h
    exact f_aug Z.cz h.1.1 h.1.2 (sE e Z.cz v .now h.2 rfl)
  | .exp e, z, X, Wx, Z, st, h => by
    cases st <;> first | (cases h; done) | skip
    rename_i v p
    have h : (mE z e v && notComp v) = true := h
    simp only [Bool.and_eq_true] at h
    exact f_exp Z.cz h.2 (sE e Z.cz v .now h.1 rfl)
  | .app i e, z, X, Wx, Z, st, h => by
    unfold mS at h
    split at h <;> first | (cases h; done) | skip
    all_goals first | (exact Sm.noConfusion ‹_›) | skip
    rename_i heq
    cases heq
    simp only [Bool.and_eq_true] at h
    obtain ⟨⟨⟨⟨⟨⟨⟨h0, h1⟩, h2⟩, h3⟩, h4⟩, h5⟩, h6⟩, h7⟩ := h
    have h0 := eq_of_beq h0
    subst h0
    exact f_app Z.cz (eq_of_beq h1) h2 h3 h4 h5 (sE e Z.cz _ .cap h6 h7)
  | .putR a k e, z, X, Wx, Z, st, h => by
    cases st <;> first | (cases h; done) | skip
    rename_i tgs v p
    match tgs, h with
    | [tg], h =>
      cases tg <;> first | (cases h; done) | skip
      rename_i o i sp
      have h : (nrd a && mE z a o && mE z k i && mE z e v && cap e && notSlice i && notComp v) = true := h
      simp only [Bool.and_eq_true] at h
      obtain ⟨⟨⟨⟨⟨⟨h0, h1⟩, h2⟩, h3⟩, h4⟩, h5⟩, h6⟩ := h
      exact f_putR Z.cz h6 h5 (sE a Z.cz o .bor h1 h0) (sE k Z.cz i .now h2 rfl) (sE e Z.cz v .cap h3 h4)
    | [], h => cases h
    | t1 :: _ :: _, h => cases t1 <;> cases h
  | .asb i e, z, X, Wx, Z, st, h => by
    cases st <;> first | (cases h; done) | skip
    rename_i tg op v p
    cases tg <;> first | (cases h; done) | skip
    rename_i x px
    cases op <;> first | (cases h; done) | skip
    have h : (z.N[i]? == some x && locB z x && mE z e v) = true := h
    simp only [Bool.and_eq_true, beq_iff_eq] at h
    exact f_asb Z.cz h.1.1 h.1.2 (sE e Z.cz v .now h.2 rfl)
  | .ext i e, z, X, Wx, Z, st, h => by
    unfold mS at h
    split at h <;> first | (cases h; done) | skip
    all_goals first | (exact Sm.noConfusion ‹_›) | skip
    rename_i heq
    cases heq
    simp only [Bool.and_eq_true] at h
    obtain ⟨⟨⟨⟨⟨⟨⟨h0, h1⟩, h2⟩, h3⟩, h4⟩, h5⟩, h6⟩, h7⟩ := h
    have h0 := eq_of_beq h0
    subst h0
    exact f_ext Z.cz (eq_of_beq h1) h2 h3 h4 h5 (sE e Z.cz _ .cap h6 h7)
  | .ins i k e, z, X, Wx, Z, st, h => by
    unfold mS at h
    split at h <;> first | (cases h; done) | skip
    all_goals first | (exact Sm.noConfusion ‹_›) | skip
    rename_i heq
    cases heq
    simp only [Bool.and_eq_true] at h
    obtain ⟨⟨⟨⟨⟨⟨⟨⟨⟨⟨h0, h1⟩, h2⟩, h3⟩, h4⟩, h5⟩, h6⟩, h7⟩, h8⟩, h9⟩, h10⟩ := h
    have h0 := eq_of_beq h0
    subst h0
    exact f_ins Z.cz (eq_of_beq h1) h2 h3 h4 h5 h6 (sE k Z.cz _ .cap h7 h9) (sE e Z.cz _ .cap h8 h10)
  | .appR a e, z, X, Wx, Z, st, h => by
    unfold mS at h
    split at h <;> first | (cases h; done) | skip
    all_goals first | (exact Sm.noConfusion ‹_›) | skip
    rename_i heq
    cases heq
    simp only [Bool.and_eq_true] at h
    obtain ⟨⟨⟨⟨⟨⟨⟨h0, h1⟩, h2⟩, h3⟩, h4⟩, h5⟩, h6⟩, h7⟩ := h
    have h0 := eq_of_beq h0
    subst h0
    exact f_appR Z.cz h3 h4 h5 (sE a Z.cz _ .bor h1 h2) (sE e Z.cz _ .cap h6 h7)
  | .popO j i, z, X, Wx, Z, st, h => by
    unfold mS at h
    split at h <;> first | (cases h; done) | skip
    all_goals first | (exact Sm.noConfusion ‹_›) | skip
    rename_i heq
    cases heq
    simp only [Bool.and_eq_true, bne_iff_ne, ne_eq] at h
    obtain ⟨⟨⟨⟨⟨⟨⟨h0, h1⟩, h2⟩, h3⟩, h4⟩, h5⟩, h6⟩, h7⟩ := h
    have h0 := eq_of_beq h0
    subst h0
    exact f_popO Z.cz (eq_of_beq h1) h2 h3 h4 (eq_of_beq h5) h6 h7
  | .putO i k e, z, X, Wx, Z, st, h => by
    unfold mS at h
    split at h <;> first | (cases h; done) | skip
    all_goals first | (exact Sm.noConfusion ‹_›) | skip
    rename_i heq
    cases heq
    simp only [Bool.and_eq_true] at h
    obtain ⟨⟨⟨⟨⟨⟨⟨h1, h2⟩, h3⟩, h4⟩, h5⟩, h6⟩, h7⟩, h8⟩ := h
    exact f_putO Z.cz (eq_of_beq h1) h2 h3 h8 h7 (sE k Z.cz _ .now h4 rfl) (sE e Z.cz _ .cap h5 h6)
  | .parO i j c d, z, X, Wx, Z, st, h => by
    unfold mS at h
    split at h <;> first | (cases h; done) | skip
    all_goals first | (exact Sm.noConfusion ‹_›) | skip
    rename_i heq
    cases heq
    rw [Bool.and_eq_true] at h
    obtain ⟨h, hh⟩ := h
    simp only [Bool.and_eq_true, bne_iff_ne, ne_eq] at h
    obtain ⟨⟨⟨⟨⟨⟨h3, h4⟩, h5⟩, h6⟩, h7⟩, h8⟩, h9⟩ := h
    rcases Bool.or_eq_true_iff.mp hh with h | h
    · simp only [Bool.and_eq_true, Bool.not_eq_true', beq_iff_eq] at h
      obtain ⟨⟨⟨⟨⟨h1, h2⟩, h10⟩, h11⟩, h12⟩, h13⟩ := h
      exact f_parO Z.cz h1 h2 h3 (sE c Z.cz _ .cap h4 h6) (sE d Z.cz _ .frs h5 h7) h8 h9 (by rw [beq_iff_eq]; exact h10) h11 h12 h13
    · simp only [Bool.and_eq_true, beq_iff_eq] at h
      obtain ⟨⟨⟨⟨h1, h2⟩, h10⟩, h11⟩, h12⟩ := h
      exact f_parOT Z.cz h1 h2 h10 h11 h3 h12 (sE c Z.cz _ .cap h4 h6) (sE d Z.cz _ .frs h5 h7) h8 h9
  | .parP i j c d, z, X, Wx, Z, st, h => by
    unfold mS at h
    split at h <;> first | (cases h; done) | skip
    all_goals first | (exact Sm.noConfusion ‹_›) | skip
    rename_i heq
    cases heq
    rw [Bool.and_eq_true] at h
    obtain ⟨h, hh⟩ := h
    simp only [Bool.and_eq_true, bne_iff_ne, ne_eq] at h
    obtain ⟨⟨⟨⟨⟨⟨h3, h4⟩, h5⟩, h6⟩, h7⟩, h8⟩, h9⟩ := h
    rcases Bool.or_eq_true_iff.mp hh with h | h
    · simp only [Bool.and_eq_true, Bool.not_eq_true', beq_iff_eq] at h
      obtain ⟨⟨⟨⟨⟨h1, h2⟩, h10⟩, h11⟩, h12⟩, h13⟩ := h
      exact f_parP Z.cz h1 h2 h3 (sE c Z.cz _ .frs h4 h6) (sE d Z.cz _ .cap h5 h7) h8 h9 (by rw [beq_iff_eq]; exact h10) h11 h12 h13
    · simp only [Bool.and_eq_true, beq_iff_eq] at h
      obtain ⟨⟨⟨⟨h1, h2⟩, h10⟩, h11⟩, h12⟩ := h
      exact f_parPT Z.cz h1 h2 h10 h11 h3 h12 (sE c Z.cz _ .frs h4 h6) (sE d Z.cz _ .cap h5 h7) h8 h9
  | .parQ i j c d, z, X, Wx, Z, st, h => by
    unfold mS at h
    split at h <;> first | (cases h; done) | skip
    all_goals first | (exact Sm.noConfusion ‹_›) | skip
    rename_i heq
    cases heq
    rw [Bool.and_eq_true] at h
    obtain ⟨h, hh⟩ := h
    simp only [Bool.and_eq_true, bne_iff_ne, ne_eq] at h
    obtain ⟨⟨⟨⟨⟨⟨h3, h4⟩, h5⟩, h6⟩, h7⟩, h8⟩, h9⟩ := h
    rcases Bool.or_eq_true_iff.mp hh with h | h
    · simp only [Bool.and_eq_true, Bool.not_eq_true', beq_iff_eq] at h
      obtain ⟨⟨⟨⟨⟨h1, h2⟩, h10⟩, h11⟩, h12⟩, h13⟩ := h
      exact f_parQ Z.cz h1 h2 h3 (sE c Z.cz _ .frs h4 h6) (sE d Z.cz _ .frs h5 h7) h8 h9 (by rw [beq_iff_eq]; exact h10) h11 h12 h13
    · simp only [Bool.and_eq_true, beq_iff_eq] at h
      obtain ⟨⟨⟨⟨h1, h2⟩, h10⟩, h11⟩, h12⟩ := h
      exact f_parQT Z.cz h1 h2 h10 h11 h3 h12 (sE c Z.cz _ .frs h4 h6) (sE d Z.cz _ .frs h5 h7) h8 h9
  | .newR i e, z, X, Wx, Z, st, h => by
    cases st <;> first | (cases h; done) | skip
    rename_i tgs v p
    match tgs, h with
    | [tg], h =>
      cases tg <;> first | (cases h; done) | skip
      rename_i x px
      have h : (z.N[i]? == some x && locB z x && mE z e v && frsh e && notComp v) = true := h
      simp only [Bool.and_eq_true, beq_iff_eq] at h
      obtain ⟨⟨⟨⟨h1, h2⟩, h3⟩, h4⟩, h5⟩ := h
      exact f_newR (s_name Z.cz h1 h2 h3 h4 (by rw [Bool.or_eq_true]; exact .inl h5))
    | [], h => cases h
    | t1 :: _ :: _, h => cases t1 <;> cases h
  | .frz i, z, X, Wx, Z, st, h => by cases st <;> cases h
  | .ife c a b, z, X, Wx, Z, st, h => by
    cases st <;> first | (cases h; done) | skip
    rename_i t x y p
    have h : (mE z c t && mSs z a x && mSs z b y) = true := h
    simp only [Bool.and_eq_true] at h
    exact f_ife (sT c Z.cz t h.1.1) (sSs a Z x h.1.2) (sSs b Z y h.2)
  | .for_ t it b, z, X, Wx, Z, st, h => by
    cases st <;> first | (cases h; done) | skip
    rename_i tg iter body els p
    match els, h with
    | [], h =>
      have h : (mT z t tg && mI z it tg iter && notSet iter && mSs z b body) = true := h
      simp only [Bool.and_eq_true] at h
      exact f_for Z h.1.2 (sI it Z.cz tg iter h.1.1.2) (sG Z.cz.calm Z.cz.nd Z.cz.N Z.cz.env Z.cz.fnb t tg h.1.1.1) (sSs b Z body h.2)
    | _ :: _, h => cases h
  | .whl c b, z, X, Wx, Z, st, h => by
    cases st <;> first | (cases h; done) | skip
    rename_i t body els p
    match els, h with
    | [], h =>
      have h : (mE z c t && mSs z b body) = true := h
      simp only [Bool.and_eq_true] at h
      exact f_whl Z (sT c Z.cz t h.1) (sSs b Z body h.2)
    | _ :: _, h => cases h
  | .ret e, z, X, Wx, Z, st, h => by
    cases st <;> first | (cases h; done) | skip
    rename_i v p
    cases v <;> first | (cases h; done) | skip
    have h : (mE z e _ && nrd e) = true := h
    rw [Bool.and_eq_true] at h
    exact f_ret (sE e Z.cz _ .bor h.1 h.2)
  | .retR e, z, X, Wx, Z, st, h => by
    cases st <;> first | (cases h; done) | skip
    rename_i v p
    cases v <;> first | (cases h; done) | skip
    rename_i v
    have h : (mE z e v && frsh e) = true := h
    simp only [Bool.and_eq_true] at h
    exact f_retR (sE e Z.cz _ .frs h.1 h.2)
  | .retN, z, X, Wx, Z, st, h => by
    cases st <;> first | (cases h; done) | skip
    rename_i v p
    cases v <;> first | (cases h; done) | skip
    exact f_retN
  | .brk, z, X, Wx, Z, st, h => by
    cases st <;> first | (cases h; done) | skip
    exact f_brk
  | .cnt, z, X, Wx, Z, st, h => by
    cases st <;> first | (cases h; done) | skip
    exact f_cnt
  | .pas, z, X, Wx, Z, st, h => by
    cases st <;> first | (cases h; done) | skip
    exact f_pas
  | .rse c e, z, X, Wx, Z, st, h => by
    unfold mS at h
    split at h <;> first | (cases h; done) | skip
    all_goals first | (exact Sm.noConfusion ‹_›) | skip
    rename_i heq
    cases heq
    simp only [Bool.and_eq_true, bne_iff_ne, ne_eq] at h
    obtain ⟨⟨⟨⟨⟨⟨h0, h1⟩, h2⟩, h3⟩, h4⟩, h5⟩, h6⟩ := h
    exact f_rse Z (eq_of_beq h0) h6 h1 h2 (sE e Z.cz _ .cap h3 h4) h5
  | .tryA b c i j, z, X, Wx, Z, st, h => by
    unfold mS at h
    split at h <;> first | (cases h; done) | skip
    all_goals first | (exact Sm.noConfusion ‹_›) | skip
    rename_i heq
    cases heq
    simp only [Bool.and_eq_true, bne_iff_ne, ne_eq] at h
    obtain ⟨⟨⟨⟨⟨⟨⟨⟨⟨⟨h0, h1⟩, h2⟩, h3⟩, h4⟩, h5⟩, h6⟩, h7⟩, h8⟩, h9⟩, h10⟩ := h
    have h4 := eq_of_beq h4
    subst h4
    exact f_try Z (eq_of_beq h1) h2 h3 h5 (eq_of_beq h6) h7 (eq_of_beq h8) (by simpa using h9) h10 fun Z' => sSs b Z' _ h0
  | .appP i j e, z, X, Wx, Z, st, h => by
    unfold mS at h
    split at h <;> first | (cases h; done) | skip
    all_goals first | (exact Sm.noConfusion ‹_›) | skip
    rename_i heq
    cases heq
    simp only [Bool.and_eq_true, bne_iff_ne, ne_eq] at h
    obtain ⟨⟨⟨⟨⟨⟨⟨⟨⟨⟨⟨⟨h0, h1⟩, h2⟩, h3⟩, h4⟩, h5⟩, h6⟩, h7⟩, h8⟩, h9⟩, h10⟩, h11⟩, h12⟩ := h
    have h0 := eq_of_beq h0
    subst h0
    have h1 := eq_of_beq h1
    subst h1
    exact f_appP Z.cz h2 (eq_of_beq h3) h4 h5 (eq_of_beq h6) h7 h8 h9 h10 h11 (sE e Z.cz _ .now h12 rfl)
  | .popK j i e, z, X, Wx, Z, st, h => by
    unfold mS at h
    split at h <;> first | (cases h; done) | skip
    all_goals first | (exact Sm.noConfusion ‹_›) | skip
    rename_i heq
    cases heq
    simp only [Bool.and_eq_true, bne_iff_ne, ne_eq] at h
    obtain ⟨⟨⟨⟨⟨⟨⟨⟨⟨h0, h1⟩, h2⟩, h3⟩, h4⟩, h5⟩, h6⟩, h7⟩, h8⟩, h9⟩ := h
    have h0 := eq_of_beq h0
    subst h0
    exact f_popK Z.cz (eq_of_beq h1) h2 h3 h4 (eq_of_beq h5) h6 h7 h8 (sE e Z.cz _ .now h9 rfl)
  | .never, z, X, Wx, Z, st, h => f_never
termination_by s => sizeOf s
theorem sSs : ∀ (s : Sms) {z : Sx} {X : Cx} {Wx : WX} (Z : Cs z X M G Wx) (xs : List Stmt), mSs z s xs = true → PSs X xs (tSs G M Wx s)
  | .nil, z, X, Wx, Z, xs, h => by
    cases xs <;> first | (cases h; done) | skip
    exact fs_nil
  | .cons s r, z, X, Wx, Z, xs, h => by
    by_cases hf : ∃ i, s = .frz i
    · obtain ⟨i, rfl⟩ := hf
      have h : mSs z r xs = true := h
      exact fs_frz (sSs r Z xs h)
    · have key : ∃ x xs', xs = x :: xs' ∧ mS z s x = true ∧ mSs z r xs' = true := by
        cases xs with
        | nil => cases s <;> first | (exact absurd ⟨_, rfl⟩ hf) | cases h
        | cons x xs' =>
          have h : (mS z s x && mSs z r xs') = true := by
            cases s <;> first | exact h | (exact absurd ⟨_, rfl⟩ hf)
          simp only [Bool.and_eq_true] at h
          exact ⟨x, xs', rfl, h.1, h.2⟩
      obtain ⟨x, xs', rfl, h1, h2⟩ := key
      exact fs_cons (sS s Z x h1) (sSs r Z xs' h2)
termination_by s => sizeOf s
end
end
end PV

/-! ## PV: a def keeps its evaluator's run; the law's head -/
namespace PV
open PySem PySem.Spec PyProof.Rows L2

/-- a def that may be called by its name -/
structure FnP (P : Program) (w : World) (K : PySem.W.Frag) (mg : Str → Option Value) (base : Heap) (k : Nat) (M : Nm) (x : Str) (n : Nat) (kws : List Kw) (Φ : List D → List D → R D) : Prop where
  ex : ∃ (f : Addr) (fd : FuncData) (ps : List Str), FnG P w K mg base k f fd ps (spD M n Φ) ∧ ps.length = n ∧ mg x = some (.ref f) ∧ PySem.W.keepIn K (.ref f) = true ∧ Binds K fd ps [] ∧ ∀ q ∈ kws, KBinds K fd ps q.ks (gP q.np q.ks.length q.perm Value.none) (gP q.np q.ks.length q.perm V.non)
section
variable {P : Program} {w : World} {K : PySem.W.Frag} {mg : Str → Option Value} {base : Heap} {j k : Nat} {M : Nm} {x : Str} {n : Nat} {kws : List Kw} {Φ : List D → List D → R D}
theorem FnP.mono (F : FnP P w K mg base j M x n kws Φ) (h : j ≤ k) : FnP P w K mg base k M x n kws Φ := by
  obtain ⟨f, fd, ps, G, r⟩ := F.ex
  exact ⟨f, fd, ps, G.mono h, r⟩
end

theorem start_sit {M : Nm} {O : Adr} {ags : List Addr} {H : Hp} {S : List D} {N : List Str} {ds : List D} {vs : List V} (r : SR M O ags (fun _ => none) H S) (h : VRs M ags (exs O ags fun _ => none) H ds vs) :
    Sit M O ags (fun _ => none) (ds.map .val ++ List.replicate (N.length - ds.length) .un) S (L2.start N vs) H := by
  have hl := h.length
  refine ⟨?_, fun i d hi => ?_, fun i d hi => ?_, fun i j a z => (by cases z), r⟩
  · unfold L2.start
    rw [List.length_append, List.length_append, List.length_map, List.length_map, List.length_replicate, List.length_replicate, hl]
  · rw [List.getElem?_append] at hi
    split at hi
    · rename_i hlt
      rw [List.getElem?_map] at hi
      obtain ⟨e, he, q⟩ := Option.map_eq_some_iff.mp hi
      cases q
      obtain ⟨v, hv, rv⟩ := h.get he
      refine ⟨v, ?_, rv⟩
      unfold L2.start
      rw [List.getElem?_append_left (by rw [List.length_map, hl]; simpa using hlt), List.getElem?_map, hv]
      rfl
    · rw [List.getElem?_replicate] at hi
      split at hi <;> cases hi
  · rw [List.getElem?_append] at hi
    split at hi
    · rw [List.getElem?_map] at hi
      obtain ⟨e, he, q⟩ := Option.map_eq_some_iff.mp hi
      cases q
    · rw [List.getElem?_replicate] at hi
      split at hi <;> cases hi
theorem Bs.toExt {O : Adr} {ags ags' : List Addr} {W' : Nat → Option Addr} {H H' : Hp} (b : Bs ags (fun _ => none) H ags' W' H') : Ext ags H ags' H' :=
  ⟨b.pre, fun a o n h => b.same a o n (fun _ z => by cases z) h, b.new⟩
theorem none_sub {O : Adr} {ags : List Addr} {W : Nat → Option Addr} {H : Hp} : Le ags (exs O ags W) H ags (exs O ags fun _ => none) H := by
  refine ⟨List.prefix_refl _, fun a _ z => ?_, fun a o _ h => h⟩
  rcases z with z | z | ⟨_, z⟩
  · exact .inl z
  · exact .inr (.inl z)
  · cases z
/-- THE DEF -/
theorem def_G {P : Program} {w : World} {K : PySem.W.Frag} {mg : Str → Option Value} {base : Heap} {x qual : Str} {st : Stmt} {f : Addr} {fd : FuncData} {N ps : List Str} {k : Nat} {M : Nm} {G : PV.Env} {b : Sms} {FN : List (Str × Nat × List Kw)} {GN FV CN : List Str}
    (F : Fun K x qual st f fd) (S : FnScope N ps (defScope st)) (hK : M.K = K) (hm : mSs ⟨N, defScope st, none, FN, GN, FV, CN⟩ b (defBody st) = true)
    (fn : ∀ (i : Nat) (x : Str) (n : Nat) (q : List Kw), FN[i]? = some (x, n, q) → FnP P w K mg base k M x n q (G.fn i))
    (gv : ∀ (n : Nat) (x : Str) (d : D), GN[n]? = some x → G.gv n = some d → isOb d = false ∧ ∃ (u : Value) (v : V), mg x = some u ∧ RelV v u ∧ ∀ ags Ex H, VR M ags Ex H d v)
    (fa : Fa K mg) (fv : ∀ (k : Nat) (x : Str), FV[k]? = some x → ∃ f, mg x = some (.ref f) ∧ M.fn k = some (.ref f)) (fo : FV ≠ [] → ∀ k v, M.fn k = some v → k < FV.length) (ct : CN ≠ [] → ClsT K mg M CN) (ini : CN ≠ [] → ClsIni P w K mg base CN ∧ 2 ≤ k) : FnG P w K mg base (k + 1) f fd ps (spD M ps.length (runF G N.length b)) := by
  refine fn_G F S (fun vs H Q E h => h.1) fun cdv A outer s H vs Q E hr hg h => ?_
  obtain ⟨hl, O, ags, St, ds, sr, hv, hw⟩ := h
  have hun : (A.deeper (envOfC qual (defScope st) s.heap.objs.size f cdv)).units + 65 < cLine := by have := hr.un; omega
  have cs : Cs ⟨N, defScope st, none, FN, GN, FV, CN⟩ (cxOf (L2.CX P w) P w K mg base N qual (defScope st) f cdv A outer s H E) M G (fun cls d _ H' => E cls d H') := by
    refine ⟨⟨rfl, rfl, S.nd, rfl, hr.hd, hK, hg, hun, fun i y n q e => ?_, gv, fa.blt, fa.dig, fun _ _ => rfl, fv, fo, ct, takes_of rfl rfl rfl rfl⟩, fun h => ⟨(ini h).1, hr.mono (ini h).2⟩, rfl, rfl, passes_of rfl⟩
    obtain ⟨f', fd', ps', G', r1, r2, r3, r4, r5⟩ := (fn i y n q e).ex
    exact ⟨f', fd', ps', k, G', r1, hr, r2, r3, r4, r5⟩
  refine ⟨_, sSs b cs (defBody st) hm, O, ⟨ags, fun _ => none, H⟩, ags, fun _ => none, _, St, start_sit (N := N) sr hv, Bs.refl, ?_⟩
  have hw : Wish M O ags H Q E (endR (exSs G b (ds.map .val ++ List.replicate (N.length - ds.length) .un) St)) := hw
  cases hx : exSs G b (ds.map .val ++ List.replicate (N.length - ds.length) .un) St with
  | ok q S1 =>
    rw [hx] at hw
    obtain ⟨fl, σ1⟩ := q
    intro ags1 W1 σV1 H1 sit1 bs1
    have e1 := bs1.toExt (O := O)
    have r1 : SR M O ags1 (fun _ => none) H1 S1 := sit1.sto.reW fun i a z => by cases z
    cases fl with
    | nx => exact hw .non ags1 H1 e1 r1 rfl
    | bk => exact hw.elim
    | ct => exact hw.elim
    | rt d => exact fun v rv => hw v ags1 H1 e1 r1 rv
    | xc e =>
      intro cls dx xr
      refine hw ags1 H1 cls dx e1 r1 ?_
      cases e with
      | exc c fs =>
        obtain ⟨C, ns, us, a, h1, h2, h3, h4, h5, h6, h7⟩ := xr
        refine ⟨C, ns, us, a, h1, h2, h3, fun z => h4 ?_, h5, h6, VRs.le none_sub _ _ h7⟩
        rcases z with z | z | ⟨_, z⟩
        · exact .inl z
        · exact .inr (.inl z)
        · cases z
      | _ => exact xr.elim
  | exc e S1 => rw [hx] at hw; exact hw.elim
  | stuck => rw [hx] at hw; exact hw.elim
end PV

/-! ## PV: the law's own head -/
namespace PV
open PySem PySem.Spec PyProof.Rows L2

/-- one law, called by the claim's caller: what is asked of its def, from an abstract heap that tracks at most the script -/
def Asked (P : Program) (w : World) (K : PySem.W.Frag) (M : Nm) (Φ : List D → List D → R D) (k : Nat) (fa : Addr) (fd : FuncData) (x : Str) (mg : Str → Option Value) : Prop :=
  ∀ base : Heap, K.In base → base.Ns mainGlobals mg → FnG P w K mg base k fa fd [x] (spD M 1 Φ)
theorem ask_run {P : Program} {w : World} {K : PySem.W.Frag} {M : Nm} {mg mb : Str → Option Value} {Φ : List D → List D → R D} {k : Nat} {fa a : Addr} {fd : FuncData} {x : Str} {s : Shared} {vs : List Value} {ns : List Int}
    (KX : K.In s.heap) (hns : s.heap.Ns mainGlobals mg) (hb : s.heap.Ns builtinsNs mb) (hbb : ∀ y : Str, y ≠ "__name__" → mb y = bootBuiltins y) (lim : s.heap.NoLimit) (hg : s.gens = #[])
    (ha : s.heap.get? a = some { cls := .type "list", data := .seq vs.toArray }) (hr : Room k callerA) (F : Asked P w K M Φ k fa fd x mg) (bind : ∀ (s : Shared) (u : Value), BindsTo s fd ⟨[u], []⟩ [(x, u)])
    (hM : M.K = K) (hΦ : ∃ S, Φ [.scr ns] [] = .ok (.bl true) S) (H : Hp) (only : Only H) (sq : SqL K H a (ns.map V.int)) (hok : HOk P w H s.heap) (hA : ∀ b, H b ≠ none → b = a) (hKa : H a ≠ none → K.lookup a = none) :
    codeAny (model P w) callerA (.call (.ref fa) ⟨[.ref a], []⟩) (fun r s' => r = .ok (.ret (.bool true)) ∧ OldK s.heap s'.heap ∧ s'.os = s.os ∧ AllBare s'.gens) s := by
  -- what is hidden is no dict
  have vis : ∀ {b : Addr} {o : Obj}, s.heap.get? b = some o → (∀ c : Array Value, ∀ n, o.data ≠ .seq c n) → (hidT s.heap H).get? b = some o := fun {b o} e h => by
    refine hidT_get e ?_
    cases q : H b with
    | none => rfl
    | some u =>
      have e' : b = a := hA b fun z => by rw [q] at z; cases z
      rw [e', ha] at e
      cases e
      exact absurd rfl (h _ _)
  have nsv : ∀ {b : Addr} {m : Str → Option Value}, s.heap.Ns b m → (hidT s.heap H).Ns b m := by
    rintro b m ⟨o, es, ep, e, d, r⟩
    exact ⟨o, es, ep, vis e fun c n z => (by rw [d] at z; cases z), d, r⟩
  have inB : K.In (hidT s.heap H) := fun b o e => by
    refine hidT_get (KX b o e) ?_
    cases q : H b with
    | none => rfl
    | some u =>
      have e' : b = a := hA b fun z => by rw [q] at z; cases z
      rw [e', hKa (by rw [← e', q]; intro z; cases z)] at e
      cases e
  have md : Mod K mg (hidT s.heap H) := ⟨inB, nsv hns, ⟨mb, nsv hb, hbb⟩, by obtain ⟨mc, l1, l2⟩ := lim; exact ⟨mc, nsv l1, l2⟩⟩
  have en : Env0 P w K mg (hidT s.heap H) callerA [] s H := ⟨rfl, md, fun b o e => of_hidT e, Nat.le_of_eq (hidT_size _ _), trivial, fun b hb => (by cases hb), hok, .of_eq hg⟩
  have sr : SR M (fun _ => False) [] (fun _ => none) H [] := ⟨rfl, List.nodup_nil, fun n d a h => (by simp at h), fun a h => (by cases h), fun i a h => (by cases h), fun a h => h.elim, fun i a h => (by cases h), fun a h => h.elim, fun d h => (by cases h)⟩
  have vr : VRs M [] (exs (fun _ => False) [] fun _ => none) H [.scr ns] [.ref a] := by
    refine ⟨.ref a, [], rfl, ?_, rfl⟩
    rcases sq with sq | ⟨o, its, n, h⟩
    · refine .inl ⟨a, rfl, ?_, ?_, .inl ?_⟩
      · rintro (z | z | ⟨_, z⟩)
        · exact z
        · cases z
        · cases z
      · rcases sq with q | ⟨o, q⟩ <;> (rw [q]; intro z; cases z)
      · exact sq
    · exact .inr ⟨a, o, its, n, rfl, by rw [hM]; exact h⟩
  obtain ⟨S1, hS1⟩ := hΦ
  have wish : spD M 1 Φ [.ref a] H (fun v _ => v = .bl true) (fun _ _ _ => False) := ⟨rfl, fun _ => False, [], [], [.scr ns], sr, vr, by rw [hS1]; exact fun v _ _ _ _ h => h⟩
  refine codeAny_mono ((F _ inB (nsv hns)).run callerA [] s H ⟨[.ref a], []⟩ [.ref a] [.ref a] _ _ hr rfl en (bind s (.ref a)) (.cons rfl .nil) wish) fun r s' h => ?_
  match r, h with
  | .ok (.ret u), ⟨v, H', os, bare, un, hok', r', q⟩ =>
    cases (show v = V.bl true from q)
    cases r'
    refine ⟨rfl, OldK.of_keep fun b o e => ?_, os, bare⟩
    cases q : H b with
    | none => exact un.keep b o e q (fun z => (by cases z)) (fun z => (by cases z))
    | some u =>
      rcases only b with z | ⟨ob, xs, z⟩
      · rw [q] at z; cases z
      · obtain ⟨e2, _⟩ := hok' b _ (un.frzs b ob _ z)
        obtain ⟨e1, _⟩ := hok b _ z
        rw [e] at e1
        cases e1
        exact e2
  | .ok .next, h => exact False.elim h
  | .ok .brk, h => exact False.elim h
  | .ok .cont, h => exact False.elim h
  | .error e, h =>
    obtain ⟨_, _, _, _, _, _, _, _, _, _, _, _, z⟩ := h
    exact z.elim
theorem ask_call {P : Program} {w : World} {K : PySem.W.Frag} {M : Nm} {mg mb : Str → Option Value} {Φ : List D → List D → R D} {k : Nat} {fa a : Addr} {fd : FuncData} {x : Str} {s : Shared} {vs : List Value} {ns : List Int}
    (KX : K.In s.heap) (hns : s.heap.Ns mainGlobals mg) (hb : s.heap.Ns builtinsNs mb) (hbb : ∀ y : Str, y ≠ "__name__" → mb y = bootBuiltins y) (lim : s.heap.NoLimit) (hg : s.gens = #[])
    (ha : s.heap.get? a = some { cls := .type "list", data := .seq vs.toArray }) (hi : IntsAre vs ns) (hz : ns.length ≤ sizeLine) (hr : Room k callerA) (F : Asked P w K M Φ k fa fd x mg) (bind : ∀ (s : Shared) (u : Value), BindsTo s fd ⟨[u], []⟩ [(x, u)])
    (hM : M.K = K) (hΦ : ∃ S, Φ [.scr ns] [] = .ok (.bl true) S) :
    codeAny (model P w) callerA (.call (.ref fa) ⟨[.ref a], []⟩) (fun r s' => r = .ok (.ret (.bool true)) ∧ OldK s.heap s'.heap ∧ s'.os = s.os ∧ AllBare s'.gens) s := by
  have rv := vals_ints hi
  have hl : ns.length = vs.length := by have := rv.length; rw [List.length_map] at this; exact this
  cases hk : K.lookup a with
  | some o =>
    have e := KX a o hk
    rw [ha] at e
    cases e
    exact ask_run KX hns hb hbb lim hg ha hr F bind hM hΦ (fun _ => none) (fun _ => .inl rfl) (.inr ⟨_, vs.toArray, _, hk, rfl, rfl, rfl, by rw [List.size_toArray, ← hl]; exact hz, by simpa using rv⟩) (fun b u z => by cases z) (fun b z => absurd rfl z) fun z => absurd rfl z
  | none =>
    let H : Hp := fun b => if b = a then some (.frz { cls := .type "list", data := .seq vs.toArray } (.lst (ns.map V.int))) else none
    have H1 : ∀ b, b = a → H b = some (.frz { cls := .type "list", data := .seq vs.toArray } (.lst (ns.map V.int))) := fun b e => if_pos e
    have H0 : ∀ b, b ≠ a → H b = none := fun b e => if_neg e
    refine ask_run KX hns hb hbb lim hg ha hr F bind hM hΦ H (fun b => ?_) (.inl (.inr ⟨_, H1 a rfl⟩)) (fun b u z => ?_) (fun b z => ?_) fun _ => hk
    · by_cases e : b = a
      · exact .inr ⟨_, _, H1 b e⟩
      · exact .inl (H0 b e)
    · by_cases e : b = a
      · rw [H1 b e] at z
        cases z
        subst e
        exact ⟨ha, by rw [List.length_map]; exact hz, vs, _, rv, ha⟩
      · rw [H0 b e] at z
        cases z
    · by_cases e : b = a
      · exact e
      · exact absurd (H0 b e) z
/-- THE HEAD -/
theorem walk_G {l : PySem.W.OpenLaw} {n k : Nat} {q : Program} {loose : List Str} {XP : (Str → Option Value) → Heap → Prop} {YP : World → Heap → Prop} {d : DefRec} {K : Params → PySem.W.Frag} {x : Str} {Φ : List D → List D → R D}
    (hn : l.most = some n) (hn2 : n ≤ sizeLine) (hdf : d.params.defaults = []) (hr : Room k callerA) (hY : ∀ (w : World) (h : Heap), YP w h → (K w.params).In h)
    (F : ∀ (w : World) (mg : Str → Option Value) (fa : Addr) (h : Heap), (K w.params).In h → h.Ns mainGlobals mg → mg d.name = some (.ref fa) →
      ∃ (fd : FuncData) (M : Nm), (∀ (s : Shared) (u : Value), BindsTo s fd ⟨[u], []⟩ [(x, u)]) ∧ M.K = K w.params ∧ Asked l.prog w (K w.params) M Φ k fa fd x mg)
    (hΦ : ∀ ns : List Int, ns.length ≤ n → ∃ S, Φ [.scr ns] [] = .ok (.bl true) S) : PySem.W.WalkO q loose XP YP l.row.toRowW d [] (fun f vs => PySem.call f vs) := by
  refine Att.attach_call hn hdf fun w s₀ s₁ mg mb fa o pm cd doc a vs ns gg Y ho hd hcd hmg hobj hints hlen hgn => ?_
  have kx := hY w _ Y
  obtain ⟨fd, M, bind, hM, hF⟩ := F w mg fa _ kx gg.T.g hmg
  exact ask_call kx gg.T.g gg.T.b gg.T.builtins gg.T.nolimit hgn hobj hints (Nat.le_trans hlen hn2) hr hF bind hM (hΦ ns hlen)

/-! ### a text's rows -/
section
variable {P : Program} {w : World} {K : PySem.W.Frag} {mg : Str → Option Value} {base : Heap} {j k : Nat} {M : Nm}
def FnT (P : Program) (w : World) (K : PySem.W.Frag) (mg : Str → Option Value) (base : Heap) (k : Nat) (M : Nm) (FN : List (Str × Nat × List Kw)) (l : List (List D → List D → R D)) : Prop :=
  ∀ (i : Nat) (x : Str) (n : Nat) (q : List Kw), FN[i]? = some (x, n, q) → FnP P w K mg base k M x n q (fnT l i)
theorem FnT.nil : FnT P w K mg base k M [] [] := fun i x n q h => by simp at h
theorem FnT.cons {x : Str} {n : Nat} {q : List Kw} {Φ : List D → List D → R D} {FN : List (Str × Nat × List Kw)} {l : List (List D → List D → R D)} (h : FnP P w K mg base k M x n q Φ) (t : FnT P w K mg base k M FN l) : FnT P w K mg base k M ((x, n, q) :: FN) (Φ :: l) := by
  intro i y m p e
  cases i with
  | zero => cases e; exact h
  | succ i => exact t i y m p (by simpa using e)
def GvP (mg : Str → Option Value) (M : Nm) (x : Str) (d : D) : Prop := isOb d = false ∧ ∃ (u : Value) (v : V), mg x = some u ∧ RelV v u ∧ ∀ ags Ex H, VR M ags Ex H d v
def GvT (mg : Str → Option Value) (M : Nm) (GN : List Str) (l : List D) : Prop := ∀ (n : Nat) (x : Str) (d : D), GN[n]? = some x → gvT l n = some d → GvP mg M x d
theorem GvT.nil : GvT mg M [] [] := fun n x d h => by simp at h
theorem GvT.cons {x : Str} {d : D} {GN : List Str} {l : List D} (h : GvP mg M x d) (t : GvT mg M GN l) : GvT mg M (x :: GN) (d :: l) := by
  intro n y e h1 h2
  cases n with
  | zero => cases h1; cases h2; exact h
  | succ n => exact t n y e (by simpa using h1) (by unfold gvT at h2 ⊢; simpa using h2)
theorem gv_str {x : Str} {c : List Nat} {t : Tok} (h : mg x = some (.str ⟨c.toArray⟩ t)) (hc : goodB c = true) : GvP mg M x (.str c) := by
  simp only [goodB, Bool.and_eq_true, decide_eq_true_eq, List.all_eq_true] at hc
  exact ⟨rfl, _, .str ⟨c.toArray⟩, h, ⟨t, rfl⟩, fun _ _ _ => ⟨rfl, by rw [sizeLine_eq]; exact hc.1, fun e he => by simpa using hc.2 e he⟩⟩
theorem gv_int {x : Str} {i : Int} {t : Tok} (h : mg x = some (.int i t)) : GvP mg M x (.int i) := ⟨rfl, _, .int i, h, ⟨t, rfl⟩, fun _ _ _ => rfl⟩
def KbT (K : PySem.W.Frag) (fd : FuncData) (ps : List Str) (kws : List Kw) : Prop := ∀ q ∈ kws, KBinds K fd ps q.ks (gP q.np q.ks.length q.perm Value.none) (gP q.np q.ks.length q.perm V.non)
theorem kb_nil {fd : FuncData} {ps : List Str} : KbT K fd ps [] := fun _ h => nomatch h
theorem kb_cons {fd : FuncData} {ps : List Str} {q : Kw} {r : List Kw} (h : KBinds K fd ps q.ks (gP q.np q.ks.length q.perm Value.none) (gP q.np q.ks.length q.perm V.non)) (t : KbT K fd ps r) : KbT K fd ps (q :: r) := fun p hp => by
  rcases List.mem_cons.mp hp with e | e
  · subst e; exact h
  · exact t p e
theorem kb_of {x qual : Str} {st : Stmt} {f : Addr} {fd : FuncData} {ps ks : List Str} {np nk : Nat} {perm : List Nat} (F : Fun K x qual st f fd) (h0 : ps ≠ [])
    (h : ∀ (kV doc pm : Value) (an : Option Addr) (cdv ct : Value) (us ws : List Value), us.length = np → ws.length = nk → bindArgs (PySem.W.fnOf x qual (defArgs st) (defBody st) (defScope st) .none kV doc pm an cdv ct) ⟨us, ks.zip ws⟩ = pure (ps.zip (perm.map fun j => (us ++ ws).getD j .none))) :
    KBinds K fd ps ks (gP np nk perm Value.none) (gP np nk perm V.non) := by
  obtain ⟨oc, od, kV, doc, pm, an, cdv, ct, osl, rfl, lk, hcd⟩ := F.ex
  refine ⟨fun s us ws _ hl => ?_, fun r rz => vals_gP r rz⟩
  unfold gP at hl ⊢
  by_cases c : us.length = np ∧ ws.length = nk
  · rw [if_pos c]
    exact .of_eq (h kV doc pm an cdv ct us ws c.1 c.2)
  · rw [if_neg c] at hl
    cases ps with
    | nil => exact absurd rfl h0
    | cons _ _ => cases hl
/-- what a text says of its functions that are values, and of its exceptions -/
structure TxF (P : Program) (K : PySem.W.Frag) (mg : Str → Option Value) (M : Nm) (FV CN : List Str) : Prop where
  fv : ∀ (k : Nat) (x : Str), FV[k]? = some x → ∃ f, mg x = some (.ref f) ∧ M.fn k = some (.ref f)
  fo : FV ≠ [] → ∀ k v, M.fn k = some v → k < FV.length
  ct : CN ≠ [] → ClsT K mg M CN
  ini : CN ≠ [] → ∃ (D fI : Addr) (fd : FuncData), FnI P K mg D fI fd ∧ Binds K fd ["self", "value"] [] ∧
    ∀ c x, CN[c]? = some x → c ≠ 0 → ∃ C, mg x = some (.ref C) ∧ ClsI K D C ∧ PySem.W.findIn K (.ref C) "__init__" = some (some (.ref fI)) ∧ PySem.W.typeIn K (.ref fI) = some (.type "function")
theorem TxF.none : TxF P K mg ⟨K, fun _ => none, fun _ => none⟩ [] [] := ⟨fun k x h => by simp at h, fun h => absurd rfl h, fun h => absurd rfl h, fun h => absurd rfl h⟩
theorem mk_G {x qual : Str} {st : Stmt} {f : Addr} {fd : FuncData} {N ps : List Str} {b : Sms} {FN : List (Str × Nat × List Kw)} {GN FV CN : List Str} {l : List (List D → List D → R D)} {gl : List D} {n : Nat}
    (F : Fun K x qual st f fd) (S : FnScope N ps (defScope st)) (hK : M.K = K) (hm : mSs ⟨N, defScope st, none, FN, GN, FV, CN⟩ b (defBody st) = true) (fn : FnT P w K mg base k M FN l) (gv : GvT mg M GN gl) (fa : Fa K mg) (tx : TxF P K mg M FV CN) (hk : 2 ≤ k) (hn : ps.length = n) :
    FnG P w K mg base (k + 1) f fd ps (spD M n (runF ⟨fnT l, gvT gl⟩ N.length b)) := by
  subst hn
  refine def_G (G := ⟨fnT l, gvT gl⟩) F S hK hm fn gv fa tx.fv tx.fo tx.ct fun h => ⟨?_, hk⟩
  obtain ⟨D, fI, fd, h1, h2, h3⟩ := tx.ini h
  exact ⟨D, fI, fd, init_ok (k := 0) h1, h2, h3⟩
theorem mk_P {x qual : Str} {st : Stmt} {f : Addr} {fd : FuncData} {N ps : List Str} {b : Sms} {FN : List (Str × Nat × List Kw)} {GN FV CN : List Str} {l : List (List D → List D → R D)} {gl : List D} {n : Nat} {kws : List Kw}
    (F : Fun K x qual st f fd) (S : FnScope N ps (defScope st)) (hK : M.K = K) (hm : mSs ⟨N, defScope st, none, FN, GN, FV, CN⟩ b (defBody st) = true) (fn : FnT P w K mg base k M FN l) (gv : GvT mg M GN gl) (fa : Fa K mg) (tx : TxF P K mg M FV CN) (hk : 2 ≤ k)
    (hmg : mg x = some (.ref f)) (kp : PySem.W.keepIn K (.ref f) = true) (bs : Binds K fd ps []) (kb : KbT K fd ps kws) (hn : ps.length = n) : FnP P w K mg base (k + 1) M x n kws (runF ⟨fnT l, gvT gl⟩ N.length b) :=
  ⟨f, fd, ps, mk_G F S hK hm fn gv fa tx hk hn, hn, hmg, kp, bs, kb⟩
/-- nothing is promised of a call that is not come to -/
theorem stuck_P {x qual : Str} {st : Stmt} {f : Addr} {fd : FuncData} {ps : List Str} {n : Nat} {kws : List Kw} (F : Fun K x qual st f fd) (hn : ps.length = n) (hmg : mg x = some (.ref f)) (kp : PySem.W.keepIn K (.ref f) = true) (bs : Binds K fd ps []) (kb : KbT K fd ps kws) :
    FnP P w K mg base k M x n kws (fun _ _ => .stuck) := by
  refine ⟨f, fd, ps, ⟨fun vs H Q E h => ?_, fun A outer s H args us vs Q E hr hg e0 hb r h => ?_⟩, hn, hmg, kp, bs, kb⟩
  · rw [hn]; exact h.1
  · obtain ⟨_, O, ags, S, ds, _, _, z⟩ := h
    exact z.elim
end
end PV

/-! ## PV: a text's exceptions -/
namespace PV
open PySem PySem.Spec PyProof.Rows L2

def clsB (K : PySem.W.Frag) (D fI C : Addr) : Bool :=
  decide (PySem.W.findIn K (.ref C) "__setattr__" = some (some (.builtin "object.__setattr__"))) && decide (PySem.W.findIn K (.ref C) "__getattribute__" = some (some (.builtin "BaseException.__getattribute__"))) &&
  decide (PySem.W.findIn K (.ref C) "__getattr__" = some none) && decide (PySem.W.findIn K (.ref C) "value" = some none) && decide (PySem.W.findIn K (.ref C) "__class__" = some (some (.builtin "object.__class__"))) &&
  decide (PySem.W.findIn K (.ref C) "__init__" = some (some (.ref fI))) && PySem.W.keepIn K (.ref C) && decide (PySem.W.subIn K (.ref C) (.type "BaseException") = some true) && decide (PySem.W.subIn K (.ref C) (.type "ValueError") = some true) &&
  decide (PySem.W.typeIn K (.ref C) = some (.type "type")) && PySem.W.hasDictIn K C && decide (PySem.W.mroIn K C (.type "object") = some true) && decide (PySem.W.mroIn K C (.ref D) = some true) && decide (PySem.W.ks_superIn K C D "__init__" = some (some (.builtin "ValueError.__init__")))
def prB (K : PySem.W.Frag) (CL : List Addr) : Bool := (List.range CL.length).all fun i => (List.range CL.length).all fun j => match CL[i]?, CL[j]? with
  | some C, some C' => decide (PySem.W.subIn K (.ref C) (.ref C') = some (j == 0 || j == i)) && (decide (C ≠ C') || i == j)
  | _, _ => false
/-- the object of a class of the package -/
def ClsO (K : PySem.W.Frag) (C : Addr) : Prop := ∃ nm q N bs bm sn sub ab col dd k0 k1 k2 k3 k5, K.lookup C = some (excClassObj nm q C N bs bm true sn sub ab col dd k0 k1 k2 k3 k5 "ValueError.__new__") ∧ PySem.HandSPX.refsVE bm = true
inductive ClsL (K : PySem.W.Frag) (mg : Str → Option Value) (D fI : Addr) : List Str → List Addr → Prop
  | nil : ClsL K mg D fI [] []
  | cons {x : Str} {C : Addr} {xs : List Str} {cs : List Addr} : mg x = some (.ref C) → ClsO K C → clsB K D fI C = true → ClsL K mg D fI xs cs → ClsL K mg D fI (x :: xs) (C :: cs)
theorem ClsL.get {K : PySem.W.Frag} {mg : Str → Option Value} {D fI : Addr} : ∀ {xs : List Str} {cs : List Addr}, ClsL K mg D fI xs cs → xs.length = cs.length ∧ ∀ (c : Nat) (x : Str), xs[c]? = some x → ∃ C, cs[c]? = some C ∧ mg x = some (.ref C) ∧ ClsO K C ∧ clsB K D fI C = true
  | _, _, .nil => ⟨rfl, fun c x h => by simp at h⟩
  | _, _, .cons h1 h2 h3 t => by
    obtain ⟨l, g⟩ := t.get
    refine ⟨by simp [l], fun c x h => ?_⟩
    cases c with
    | zero => cases h; exact ⟨_, rfl, h1, h2, h3⟩
    | succ c => exact g c x (by simpa using h)
def mCls (CL : List Addr) (c : Nat) : Option (Addr × List Str) := (CL[c]?).map fun C => (C, [("value" : Str)])
def mFn (FL : List Addr) (k : Nat) : Option V := (FL[k]?).map .ref
structure FvL (mg : Str → Option Value) (FV : List Str) (FL : List Addr) : Prop where
  len : FV.length = FL.length
  g : ∀ (k : Nat) (x : Str), FV[k]? = some x → ∃ f, FL[k]? = some f ∧ mg x = some (.ref f)
theorem FvL.nil {mg : Str → Option Value} : FvL mg [] [] := ⟨rfl, fun k x h => by simp at h⟩
theorem FvL.cons {mg : Str → Option Value} {x : Str} {f : Addr} {xs : List Str} {fs : List Addr} (h : mg x = some (.ref f)) (t : FvL mg xs fs) : FvL mg (x :: xs) (f :: fs) :=
  ⟨by simp [t.len], fun k y e => by
    cases k with
    | zero => cases e; exact ⟨f, rfl, h⟩
    | succ k => exact t.g k y (by simpa using e)⟩
theorem kit_ve {K : PySem.W.Frag} {C : Addr} (h : PySem.W.subIn K (.ref C) (.type "ValueError") = some true) : PySem.W.kitOne K (.ref C) (.type "ValueError") = some true := by
  unfold PySem.W.kitOne
  have hne : ¬ (Value.ref C == Value.type "ValueError") = true := fun z => by have := beq_iff_eq.mp z; cases this
  rw [if_neg hne]
  show (if PySem.W.kitMeta "ValueError" = true then _ else none) = _
  rw [if_pos (by decide +kernel)]
  exact h
theorem kit_cc {K : PySem.W.Frag} {C D : Addr} {b : Bool} (h1 : (PySem.W.clsIn K D).isSome = true) (h2 : PySem.W.typeIn K (.ref D) = some (.type "type")) (h3 : PySem.W.subIn K (.ref C) (.ref D) = some b) (h4 : C = D → b = true) : PySem.W.kitOne K (.ref C) (.ref D) = some b := by
  unfold PySem.W.kitOne
  by_cases e : C = D
  · subst e
    rw [if_pos (beq_self_eq_true _), h4 rfl]
  · have hne : ¬ (Value.ref C == Value.ref D) = true := fun z => e (Value.ref.inj (beq_iff_eq.mp z))
    rw [if_neg hne]
    show (if ((PySem.W.clsIn K D).isSome && PySem.W.typeIn K (.ref D) == some (.type "type")) = true then PySem.W.subIn K (.ref C) (.ref D) else none) = _
    rw [if_pos (by rw [h1, h2]; rfl)]
    exact h3
theorem tx_mk {P : Program} {K : PySem.W.Frag} {mg : Str → Option Value} {D fI : Addr} {fd : FuncData} {FV CN : List Str} {FL CL : List Addr} (hv : FvL mg FV FL) (hc : ClsL K mg D fI CN CL) (hp : prB K CL = true) (hf : FnI P K mg D fI fd) (hb : Binds K fd ["self", "value"] []) (ht : PySem.W.typeIn K (.ref fI) = some (.type "function"))
    (gt : PySem.W.specialIn K (.builtin "object.__class__") "__get__" = some (some (.builtin "getset_descriptor.__get__"))) (tk : PySem.W.takesIn K (.builtin "object.__class__") = some true) : TxF P K mg ⟨K, mFn FL, mCls CL⟩ FV CN := by
  obtain ⟨hl, hg⟩ := hc.get
  have pr : ∀ i j C C', CL[i]? = some C → CL[j]? = some C' → PySem.W.subIn K (.ref C) (.ref C') = some (j == 0 || j == i) ∧ (C = C' → i = j) := fun i j C C' h1 h2 => by
    have a1 := List.all_eq_true.mp hp i (List.mem_range.mpr (List.getElem?_eq_some_iff.mp h1).1)
    have a2 := List.all_eq_true.mp a1 j (List.mem_range.mpr (List.getElem?_eq_some_iff.mp h2).1)
    rw [h1, h2] at a2
    simp only [Bool.and_eq_true, decide_eq_true_eq, Bool.or_eq_true, beq_iff_eq] at a2
    exact ⟨a2.1, fun e => a2.2.elim (fun z => absurd e z) id⟩
  refine ⟨fun k x h => ?_, fun _ k v h => ?_, fun hne => ⟨fun c x h => ?_, fun c p h => ?_, gt, tk⟩, fun hne => ⟨D, fI, fd, hf, hb, fun c x h h0 => ?_⟩⟩
  · obtain ⟨f, h1, h2⟩ := hv.g k x h
    exact ⟨f, h2, by show (FL[k]?).map V.ref = _; rw [h1]; rfl⟩
  · obtain ⟨f, h1, _⟩ := Option.map_eq_some_iff.mp (show (FL[k]?).map V.ref = some v from h)
    rw [hv.len]
    exact (List.getElem?_eq_some_iff.mp h1).1
  · obtain ⟨C, e, g1, g2, g3⟩ := hg c x h
    simp only [clsB, Bool.and_eq_true, decide_eq_true_eq] at g3
    obtain ⟨⟨⟨⟨⟨⟨⟨⟨⟨⟨⟨⟨⟨b1, b2⟩, b3⟩, b4⟩, b5⟩, b6⟩, b7⟩, b8⟩, b9⟩, b10⟩, b11⟩, b12⟩, b13⟩, b14⟩ := g3
    have cls : (PySem.W.clsIn K C).isSome = true := by
      unfold PySem.W.hasDictIn at b11
      cases hcl : PySem.W.clsIn K C with
      | none => rw [hcl] at b11; cases b11
      | some _ => rfl
    refine ⟨C, g1, by show (CL[c]?).map _ = _; rw [e]; rfl, cls, b2, b3, b11, b8, kit_ve b9, b5, b12, b4, b10, fun d y hy => ?_⟩
    obtain ⟨D', e', q1, q2, q3⟩ := hg d y hy
    simp only [clsB, Bool.and_eq_true, decide_eq_true_eq] at q3
    obtain ⟨⟨⟨⟨⟨⟨⟨⟨⟨⟨⟨⟨⟨c1, c2⟩, c3⟩, c4⟩, c5⟩, c6⟩, c7⟩, c8⟩, c9⟩, c10⟩, c11⟩, c12⟩, c13⟩, c14⟩ := q3
    have cls' : (PySem.W.clsIn K D').isSome = true := by
      unfold PySem.W.hasDictIn at c11
      cases hcl : PySem.W.clsIn K D' with
      | none => rw [hcl] at c11; cases c11
      | some _ => rfl
    obtain ⟨p1, p2⟩ := pr c d C D' e e'
    have k1 : PySem.W.kitOne K (.ref C) (.ref D') = some (d == 0 || d == c) := kit_cc cls' c10 p1 fun z => by rw [p2 z]; simp
    refine ⟨D', q1, cls', c10, k1, ?_⟩
    unfold PySem.W.exmOne
    rw [if_pos (by rw [c8]; rfl)]
    show (if ((PySem.W.clsIn K D').isSome && PySem.W.typeIn K (.ref D') == some (.type "type")) = true then PySem.W.subIn K (.ref C) (.ref D') else none) = _
    rw [if_pos (by rw [cls', c10]; rfl)]
    exact p1
  · obtain ⟨C, h1, _⟩ := Option.map_eq_some_iff.mp (show (CL[c]?).map _ = some p from h)
    have hlt := (List.getElem?_eq_some_iff.mp h1).1
    rw [← hl] at hlt
    exact ⟨_, List.getElem?_eq_getElem hlt⟩
  · obtain ⟨C, e, g1, g2, g3⟩ := hg c x h
    simp only [clsB, Bool.and_eq_true, decide_eq_true_eq] at g3
    obtain ⟨⟨⟨⟨⟨⟨⟨⟨⟨⟨⟨⟨⟨b1, b2⟩, b3⟩, b4⟩, b5⟩, b6⟩, b7⟩, b8⟩, b9⟩, b10⟩, b11⟩, b12⟩, b13⟩, b14⟩ := g3
    exact ⟨C, g1, ⟨⟨g2, b1, b8, b10, b7⟩, b4, b14, b13, b9⟩, b6, ht⟩
end PV

/-! ## PV: mathematics over the evaluator -/
namespace PV

/-- it comes to a value, and P of it -/
structure Ok {α : Type} (m : R α) (P : α → List D → Prop) : Prop where
  h : match m with
    | .ok a S => P a S
    | _ => False
@[simp] theorem Ok_ok {α : Type} (a : α) (S : List D) (P : α → List D → Prop) : Ok (.ok a S) P = P a S := propext ⟨fun h => h.h, fun h => ⟨h⟩⟩
@[simp] theorem Ok_stuck {α : Type} (P : α → List D → Prop) : Ok (.stuck : R α) P = False := propext ⟨fun h => h.h, fun h => h.elim⟩
@[simp] theorem Ok_exc {α : Type} (e : D) (S : List D) (P : α → List D → Prop) : Ok (.exc e S : R α) P = False := propext ⟨fun h => h.h, fun h => h.elim⟩
@[simp] theorem Ok_bnd {α β : Type} (m : R α) (f : α → List D → R β) (P : β → List D → Prop) : Ok (m.bnd f) P = Ok m fun a S => Ok (f a S) P := by cases m <;> simp
theorem Ok_gt {α : Type} {m : R α} {σ : Sg} {f : α → List D → R (Fl × Sg)} {P : Fl × Sg → List D → Prop} (h : Ok m fun a S => Ok (f a S) P) : Ok (m.gt σ f) P := by
  cases m with
  | ok a S => exact h.h
  | exc _ _ => exact h.h.elim
  | stuck => exact h.h.elim
@[simp] theorem Ok_nox {α : Type} (m : R α) (P : α → List D → Prop) : Ok (R.nox m) P = Ok m P := by cases m <;> simp
theorem Ok.mono {α : Type} {m : R α} {P Q : α → List D → Prop} (h : Ok m P) (k : ∀ a S, P a S → Q a S) : Ok m Q := by
  cases m with
  | ok a S => exact ⟨k _ _ h.h⟩
  | exc _ _ => exact h.h.elim
  | stuck => exact h.h.elim
theorem Ok_lif {α : Type} {o : Option α} {a : α} {S : List D} {P : α → List D → Prop} (e : o = some a) (h : P a S) : Ok (R.lif o S) P := by subst e; exact ⟨h⟩
theorem Ok.ex {α : Type} {m : R α} {P : α → List D → Prop} (h : Ok m P) : ∃ a S, m = .ok a S ∧ P a S := by
  cases m with
  | ok a S => exact ⟨a, S, rfl, h.h⟩
  | exc _ _ => exact h.h.elim
  | stuck => exact h.h.elim
/-- behind a suite -/
def EndP (P : D → List D → Prop) : Fl × Sg → List D → Prop := fun q S => match q.1 with
  | .nx => P .non S
  | .rt d => P d S
  | _ => False
theorem Ok_run {G : Env} {n : Nat} {b : Sms} {ds S : List D} {P : D → List D → Prop} (h : Ok (exSs G b (ds.map .val ++ List.replicate (n - ds.length) .un) S) (EndP P)) : Ok (runF G n b ds S) P := by
  obtain ⟨q, S1, e, h⟩ := h.ex
  unfold runF
  rw [e]
  obtain ⟨fl, σ⟩ := q
  cases fl with
  | nx => exact ⟨h⟩
  | rt d => exact ⟨h⟩
  | _ => exact h.elim
/-- a suite, statement by statement -/
def SeqP (G : Env) (r : Sms) (P : Fl × Sg → List D → Prop) : Fl × Sg → List D → Prop := fun q S => match q.1 with
  | .nx => Ok (exSs G r q.2 S) P
  | .bk => P (.bk, q.2) S
  | .ct => P (.ct, q.2) S
  | .rt d => P (.rt d, q.2) S
  | .xc d => P (.xc d, q.2) S
theorem Ok_cons {G : Env} {s : Sm} {r : Sms} {σ : Sg} {S : List D} {P : Fl × Sg → List D → Prop} (h : Ok (exS G s σ S) (SeqP G r P)) : Ok (exSs G (.cons s r) σ S) P := by
  simp only [exSs, Ok_bnd]
  refine h.mono fun q S1 k => ?_
  obtain ⟨fl, σ1⟩ := q
  cases fl <;> first | exact k | exact ⟨k⟩
theorem SeqP_i {G : Env} {r : Sms} {σ : Sg} {S : List D} {P : Fl × Sg → List D → Prop} (h : Ok (exSs G r σ S) P) : SeqP G r P (.nx, σ) S := h
theorem Ok_nil {G : Env} {σ : Sg} {S : List D} {P : Fl × Sg → List D → Prop} (h : P (.nx, σ) S) : Ok (exSs G .nil σ S) P := by simp only [exSs]; exact ⟨h⟩
/-! loops -/
/-- behind a turn of a loop -/
def TurnP (I : Sg → List D → Prop) (P : Fl × Sg → List D → Prop) : Fl × Sg → List D → Prop := fun q S => match q.1 with
  | .nx => I q.2 S
  | .ct => I q.2 S
  | .bk => P (.nx, q.2) S
  | .rt d => P (.rt d, q.2) S
  | .xc d => P (.xc d, q.2) S
theorem Ok_forGo {t : Tg} {f : Sg → List D → R (Fl × Sg)} {P : Fl × Sg → List D → Prop} (I : Nat → Sg → List D → Prop) : ∀ (xs : List D) (i : Nat) (σ : Sg) (S : List D), I i σ S →
    (∀ j x σ S, xs[j]? = some x → I (i + j) σ S → ∃ σ1, setT t x σ = some σ1 ∧ Ok (f σ1 S) (TurnP (I (i + j + 1)) P)) → (∀ σ S, I (i + xs.length) σ S → P (.nx, σ) S) → Ok (forGo t f xs σ S) P
  | [], i, σ, S, h0, _, he => by
    unfold forGo
    exact ⟨he σ S (by simpa using h0)⟩
  | x :: xs, i, σ, S, h0, hs, he => by
    unfold forGo
    obtain ⟨σ1, e, h⟩ := hs 0 x σ S rfl (by simpa using h0)
    rw [e]
    simp only [Ok_bnd]
    refine h.mono fun q S1 k => ?_
    obtain ⟨fl, σ2⟩ := q
    have go : I (i + 1) σ2 S1 → Ok (forGo t f xs σ2 S1) P := fun h1 => Ok_forGo I xs (i + 1) σ2 S1 h1 (fun j y σ S e hj => by
      have := hs (j + 1) y σ S (by simpa using e) (by have z : i + (j + 1) = i + 1 + j := by omega
                                                      rw [z]; exact hj)
      have z : i + (j + 1) + 1 = i + 1 + j + 1 := by omega
      rw [z] at this
      exact this) (fun σ S h => he σ S (by have z : i + (x :: xs).length = i + 1 + xs.length := by simp; omega
                                           rw [z]; exact h))
    cases fl with
    | nx => exact go k
    | ct => exact go k
    | bk => exact ⟨k⟩
    | rt d => exact ⟨k⟩
    | xc d => exact ⟨k⟩
/-! comprehensions -/
theorem lcGo_pure {f : D → List D → R (List D)} {g : D → List D} {S : List D} : ∀ xs : List D, (∀ x ∈ xs, f x S = .ok (g x) S) → lcGo f xs S = .ok (xs.flatMap g) S
  | [], _ => rfl
  | x :: xs, h => by
    unfold lcGo
    rw [h x List.mem_cons_self, R.bnd_ok, lcGo_pure xs fun y hy => h y (List.mem_cons_of_mem _ hy)]
    rfl
theorem lcGo_Ok {f : D → List D → R (List D)} (I : Nat → List D → Prop) (Q : D → Prop) : ∀ (xs : List D) (i : Nat) (S : List D), I i S →
    (∀ j x S, x ∈ xs → j < i + xs.length → I j S → Ok (f x S) fun ys S' => I (j + 1) S' ∧ ys.length ≤ 1 ∧ ∀ y ∈ ys, Q y) → Ok (lcGo f xs S) fun zs S' => I (i + xs.length) S' ∧ zs.length ≤ xs.length ∧ ∀ z ∈ zs, Q z
  | [], i, S, h0, _ => by
    unfold lcGo
    exact ⟨⟨by simpa using h0, Nat.le_refl _, fun _ h => nomatch h⟩⟩
  | x :: xs, i, S, h0, hs => by
    unfold lcGo
    simp only [Ok_bnd]
    refine (hs i x S List.mem_cons_self (by simp) h0).mono fun ys S1 ⟨h1, h2, h3⟩ => ?_
    refine (lcGo_Ok I Q xs (i + 1) S1 h1 fun j y S hy hlt hj => hs j y S (List.mem_cons_of_mem _ hy) (by simp at hlt ⊢; omega) hj).mono fun zs S2 ⟨k1, k2, k3⟩ => ?_
    rw [Ok_ok]
    refine ⟨?_, ?_, fun z hz => (List.mem_append.mp hz).elim (h3 z) (k3 z)⟩
    · have z : i + (x :: xs).length = i + 1 + xs.length := by simp; omega
      rw [z]; exact k1
    · rw [List.length_append, List.length_cons]; omega

/-! ### statements -/
theorem Ok_asg {G : Env} {i : Nat} {e : Xp} {σ : Sg} {S : List D} {P : Fl × Sg → List D → Prop} (h : Ok (evE G e σ S) fun d S1 => P (.nx, σ.set i (.val d)) S1) : Ok (exS G (.asg (.nm i) e) σ S) P := by
  simp only [exS]
  exact Ok_gt (h.mono fun _ _ h => ⟨h⟩)
theorem Ok_asgO {G : Env} {i : Nat} {e : Xp} {σ : Sg} {S : List D} {P : Fl × Sg → List D → Prop} (h : Ok (evE G e σ S) fun d S1 => isOb d = true ∧ P (.nx, σ.set i (.own d)) S1) : Ok (exS G (.asgO i e) σ S) P := by
  simp only [exS]
  exact Ok_gt (h.mono fun d S1 ⟨h1, h2⟩ => by rw [if_pos h1]; exact ⟨h2⟩)
theorem Ok_ret {G : Env} {e : Xp} {σ : Sg} {S : List D} {P : Fl × Sg → List D → Prop} (h : Ok (evE G e σ S) fun d S1 => P (.rt d, σ) S1) : Ok (exS G (.ret e) σ S) P := by
  simp only [exS]
  exact Ok_gt (h.mono fun _ _ h => ⟨h⟩)
theorem Ok_retR {G : Env} {e : Xp} {σ : Sg} {S : List D} {P : Fl × Sg → List D → Prop} (h : Ok (evE G e σ S) fun d S1 => obI d = true ∧ P (.rt (.ref S1.length), σ) (S1 ++ [d])) : Ok (exS G (.retR e) σ S) P := by
  simp only [exS]
  exact Ok_gt (h.mono fun d S1 ⟨h1, h2⟩ => by rw [if_pos h1]; exact ⟨h2⟩)
theorem Ok_ife {G : Env} {c : Xp} {a b : Sms} {σ : Sg} {S : List D} {P : Fl × Sg → List D → Prop} (h : Ok (evT G c σ S) fun k S1 => if k = true then Ok (exSs G a σ S1) P else Ok (exSs G b σ S1) P) : Ok (exS G (.ife c a b) σ S) P := by
  simp only [exS]
  refine Ok_gt (h.mono fun k S1 h => ?_)
  cases k <;> exact h
theorem Ok_for {G : Env} {t : Tg} {it : Iq} {b : Sms} {σ : Sg} {S : List D} {P : Fl × Sg → List D → Prop} (h : Ok (evI G it σ S) fun xs S1 => Ok (forGo t (fun σ S => exSs G b σ S) xs σ S1) P) : Ok (exS G (.for_ t it b) σ S) P := by
  simp only [exS]
  exact Ok_gt h
theorem Ok_app {G : Env} {i : Nat} {e : Xp} {σ : Sg} {S : List D} {xs : List D} {P : Fl × Sg → List D → Prop} (hs : σ[i]? = some (.own (.lst xs))) (hl : xs.length < SZ) (h : Ok (evE G e σ S) fun y S1 => P (.nx, σ.set i (.own (.lst (xs ++ [y])))) S1) : Ok (exS G (.app i e) σ S) P := by
  simp only [exS, hs]
  exact Ok_gt (h.mono fun y S1 h => by rw [if_pos hl]; exact ⟨h⟩)
theorem Ok_putR {G : Env} {a k e : Xp} {σ : Sg} {S : List D} {n j : Nat} {i : Int} {xs : List D} {P : Fl × Sg → List D → Prop} {y : D} (he : evE G e σ S = .ok y S) (ha : evE G a σ S = .ok (.ref n) S) (hk : evE G k σ S = .ok (.int i) S) (hS : S[n]? = some (.lst xs)) (hj : L2.ixN xs.length i = some j)
    (hf : immD y = true) (h : P (.nx, σ) (S.set n (.lst (xs.set j y)))) : Ok (exS G (.putR a k e) σ S) P := by
  have e1 : setD (.lst xs) (.int i) y = some (.lst (xs.set j y)) := by
    show (L2.ixN xs.length i).map _ = _
    rw [hj]; rfl
  simp only [exS, he, ha, hk, R.gt_ok, hS, Option.bind_some, e1, hf, if_true]
  exact ⟨h⟩
/-! ### the evaluator's equations, comprehensions folded -/
@[simp] theorem eE_var (G : Env) (i : _) (σ : Sg) (S : List D) : evE G (.var i) σ S = (match σ[i]? with | some (.val d) => .ok d S | _ => .stuck) := by first | exact id rfl | simp only [evE]
@[simp] theorem eE_bvar (G : Env) (i : _) (σ : Sg) (S : List D) : evE G (.bvar i) σ S = (R.lif ((σ[i]?).bind Slot.get) S) := by first | exact id rfl | simp only [evE]
@[simp] theorem eE_lit (G : Env) (d : _) (σ : Sg) (S : List D) : evE G (.lit d) σ S = (.ok d S) := by first | exact id rfl | simp only [evE]
@[simp] theorem eE_gv (G : Env) (n : _) (σ : Sg) (S : List D) : evE G (.gv n) σ S = (R.lif (G.gv n) S) := by first | exact id rfl | simp only [evE]
@[simp] theorem eE_bin (G : Env) (o a b : _) (σ : Sg) (S : List D) : evE G (.bin o a b) σ S = ((evE G a σ S).bnd fun x S1 => (evE G b σ S1).bnd fun y S2 => R.lif (bopD o x y) S2) := by first | exact id rfl | simp only [evE]
@[simp] theorem eE_neg (G : Env) (a : _) (σ : Sg) (S : List D) : evE G (.neg a) σ S = ((evE G a σ S).bnd fun x S1 => match x with | .int i => .ok (.int (-i)) S1 | _ => .stuck) := by first | exact id rfl | simp only [evE]
@[simp] theorem eE_nt (G : Env) (a : _) (σ : Sg) (S : List D) : evE G (.nt a) σ S = ((evE G a σ S).bnd fun x S1 => match x with | .bl b => .ok (.bl (!b)) S1 | _ => .stuck) := by first | exact id rfl | simp only [evE]
@[simp] theorem eE_and_ (G : Env) (a b : _) (σ : Sg) (S : List D) : evE G (.and_ a b) σ S = ((evE G a σ S).bnd fun x S1 => match x with | .bl true => evE G b σ S1 | .bl false => .ok (.bl false) S1 | _ => .stuck) := by first | exact id rfl | simp only [evE]
@[simp] theorem eE_or_ (G : Env) (a b : _) (σ : Sg) (S : List D) : evE G (.or_ a b) σ S = ((evE G a σ S).bnd fun x S1 => match x with | .bl false => evE G b σ S1 | .bl true => .ok (.bl true) S1 | _ => .stuck) := by first | exact id rfl | simp only [evE]
@[simp] theorem eE_one (G : Env) (a : _) (σ : Sg) (S : List D) : evE G (.one a) σ S = (evE G a σ S) := by first | exact id rfl | simp only [evE]
@[simp] theorem eE_ife (G : Env) (c a b : _) (σ : Sg) (S : List D) : evE G (.ife c a b) σ S = ((evT G c σ S).bnd fun k S1 => if k = true then evE G a σ S1 else evE G b σ S1) := by first | exact id rfl | simp only [evE]
@[simp] theorem eE_cmp (G : Env) (o a b : _) (σ : Sg) (S : List D) : evE G (.cmp o a b) σ S = ((evE G a σ S).bnd fun x S1 => (evE G b σ S1).bnd fun y S2 => R.lif ((copD o x y).map .bl) S2) := by first | exact id rfl | simp only [evE]
@[simp] theorem eE_chn (G : Env) (o p a b c : _) (σ : Sg) (S : List D) : evE G (.chn o p a b c) σ S = ((evE G a σ S).bnd fun x S1 => (evE G b σ S1).bnd fun y S2 => (R.lif (copD o x y) S2).bnd fun k S3 =>
      if k = true then (evE G c σ S3).bnd fun z S4 => R.lif ((copD p y z).map .bl) S4 else .ok (.bl false) S3) := by first | exact id rfl | simp only [evE]
@[simp] theorem eE_tup (G : Env) (es : _) (σ : Sg) (S : List D) : evE G (.tup es) σ S = ((evEs G es σ S).bnd fun xs S1 => if xs.length ≤ SZ then .ok (.tup xs) S1 else .stuck) := by first | exact id rfl | simp only [evE]
@[simp] theorem eE_lst (G : Env) (es : _) (σ : Sg) (S : List D) : evE G (.lst es) σ S = ((evEs G es σ S).bnd fun xs S1 => if xs.length ≤ SZ then .ok (.lst xs) S1 else .stuck) := by first | exact id rfl | simp only [evE]
@[simp] theorem eE_sub (G : Env) (a i : _) (σ : Sg) (S : List D) : evE G (.sub a i) σ S = ((evE G a σ S).bnd fun x S1 => (evE G i σ S1).bnd fun y S2 => R.lif (subD x y S2) S2) := by first | exact id rfl | simp only [evE]
@[simp] theorem eE_sli (G : Env) (a lo hi : _) (σ : Sg) (S : List D) : evE G (.sli a lo hi) σ S = ((evE G a σ S).bnd fun x S1 => (evO G lo σ S1).bnd fun l S2 => (evO G hi σ S2).bnd fun h S3 => R.lif (sliD x l h) S3) := by first | exact id rfl | simp only [evE]
@[simp] theorem eE_rev (G : Env) (a : _) (σ : Sg) (S : List D) : evE G (.rev a) σ S = ((evE G a σ S).bnd fun x S1 => R.lif (revD x) S1) := by first | exact id rfl | simp only [evE]
@[simp] theorem eE_dct0 (G : Env) (σ : Sg) (S : List D) : evE G (.dct0) σ S = (.ok (.dct [] []) S) := by first | exact id rfl | simp only [evE]
@[simp] theorem eE_dlit (G : Env) (x d : _) (σ : Sg) (S : List D) : evE G (.dlit x d) σ S = (.ok (.dct [.str x] [d]) S) := by first | exact id rfl | simp only [evE]
@[simp] theorem eE_call (G : Env) (f es : _) (σ : Sg) (S : List D) : evE G (.call f es) σ S = ((evEs G es σ S).bnd fun xs S1 => G.fn f xs S1) := by first | exact id rfl | simp only [evE]
@[simp] theorem eE_callk (G : Env) (f es ks perm : _) (σ : Sg) (S : List D) : evE G (.callk f es ks perm) σ S = ((evEs G es σ S).bnd fun xs S1 => (evEs G ks σ S1).bnd fun ys S2 => G.fn f (perm.map fun j => (xs ++ ys).getD j .non) S2) := by first | exact id rfl | simp only [evE]
@[simp] theorem eE_bi (G : Env) (b es : _) (σ : Sg) (S : List D) : evE G (.bi b es) σ S = ((evEs G es σ S).bnd fun xs S1 => R.lif (biD b xs) S1) := by first | exact id rfl | simp only [evE]
@[simp] theorem eE_isi (G : Env) (a t : _) (σ : Sg) (S : List D) : evE G (.isi a t) σ S = ((evE G a σ S).bnd fun x S1 => R.lif ((tyD t x).map .bl) S1) := by first | exact id rfl | simp only [evE]
@[simp] theorem eE_mt (G : Env) (m a es : _) (σ : Sg) (S : List D) : evE G (.mt m a es) σ S = ((evE G a σ S).bnd fun x S1 => if mtOk m x = true then (evEs G es σ S1).bnd fun xs S2 => R.lif (mtD m x xs) S2 else .stuck) := by first | exact id rfl | simp only [evE]
@[simp] theorem eE_lstI (G : Env) (a : _) (σ : Sg) (S : List D) : evE G (.lstI a) σ S = ((evE G a σ S).bnd fun x S1 => R.lif ((lstD x).map .lst) S1) := by first | exact id rfl | simp only [evE]
@[simp] theorem eE_tupI (G : Env) (a : _) (σ : Sg) (S : List D) : evE G (.tupI a) σ S = ((evE G a σ S).bnd fun x S1 => R.lif ((tupD x).map .tup) S1) := by first | exact id rfl | simp only [evE]
@[simp] theorem eE_pub (G : Env) (e : _) (σ : Sg) (S : List D) : evE G (.pub e) σ S = ((evE G e σ S).bnd fun x S1 => if obI x = true then .ok (.ref S1.length) (S1 ++ [x]) else .stuck) := by first | exact id rfl | simp only [evE]
@[simp] theorem eE_rd (G : Env) (e : _) (σ : Sg) (S : List D) : evE G (.rd e) σ S = ((evE G e σ S).bnd fun x S1 => R.lif (rdD S1 x) S1) := by first | exact id rfl | simp only [evE]
@[simp] theorem eE_dsp (G : Env) (es : _) (σ : Sg) (S : List D) : evE G (.dsp es) σ S = ((evEs G es σ S).bnd fun xs S1 => R.lif (dspD xs) S1) := by first | exact id rfl | simp only [evE]
@[simp] theorem eE_dspT (G : Env) (k v : _) (σ : Sg) (S : List D) : evE G (.dspT k v) σ S = ((evE G k σ S).bnd fun x S1 => (evE G v σ S1).bnd fun y S2 => if isT x = true ∧ keyOk x = true then .ok (.dct [x] [y]) S2 else .stuck) := by first | exact id rfl | simp only [evE]
@[simp] theorem eE_dctT (G : Env) (σ : Sg) (S : List D) : evE G (.dctT) σ S = (.ok dT0 S) := by first | exact id rfl | simp only [evE]
@[simp] theorem eE_cmpX (G : Env) (o a b : _) (σ : Sg) (S : List D) : evE G (.cmpX o a b) σ S = ((evE G a σ S).bnd fun x S1 => (evE G b σ S1).bnd fun y S2 => R.lif ((copD o (deepD S2 x) (deepD S2 y)).map .bl) S2) := by first | exact id rfl | simp only [evE]
@[simp] theorem eE_rpr (G : Env) (a : _) (σ : Sg) (S : List D) : evE G (.rpr a) σ S = ((evE G a σ S).bnd fun x S1 => R.lif (biD .repr [deepD S1 x]) S1) := by first | exact id rfl | simp only [evE]
@[simp] theorem eE_nev (G : Env) (σ : Sg) (S : List D) : evE G (.nev) σ S = (.stuck) := by first | exact id rfl | simp only [evE]
@[simp] theorem eE_fnv (G : Env) (k : _) (σ : Sg) (S : List D) : evE G (.fnv k) σ S = (.ok (.fn k) S) := by first | exact id rfl | simp only [evE]
@[simp] theorem eE_cfv (G : Env) (a ar es : _) (σ : Sg) (S : List D) : evE G (.cfv a ar es) σ S = ((evE G a σ S).bnd fun x S1 => match x with | .fn k => (evEs G es σ S1).bnd fun xs S2 => if ar[k]? = some xs.length then G.fn k xs S2 else .stuck | _ => .stuck) := by first | exact id rfl | simp only [evE]
@[simp] theorem eE_isx (G : Env) (a c : _) (σ : Sg) (S : List D) : evE G (.isx a c) σ S = ((evE G a σ S).bnd fun x S1 => R.lif ((isxD c x).map .bl) S1) := by first | exact id rfl | simp only [evE]
@[simp] theorem eE_isv (G : Env) (a : _) (σ : Sg) (S : List D) : evE G (.isv a) σ S = ((evE G a σ S).bnd fun x S1 => R.lif ((isxD 0 x).map .bl) S1) := by first | exact id rfl | simp only [evE]
@[simp] theorem eE_xval (G : Env) (a : _) (σ : Sg) (S : List D) : evE G (.xval a) σ S = ((evE G a σ S).bnd fun x S1 => R.lif (xvalD x) S1) := by first | exact id rfl | simp only [evE]
@[simp] theorem eE_isi2 (G : Env) (a t u : _) (σ : Sg) (S : List D) : evE G (.isi2 a t u) σ S = ((evE G a σ S).bnd fun x S1 => R.lif ((tyD2 t u x).map .bl) S1) := by first | exact id rfl | simp only [evE]
@[simp] theorem eT_nt (G : Env) (a : _) (σ : Sg) (S : List D) : evT G (.nt a) σ S = ((evT G a σ S).bnd fun k S1 => .ok (!k) S1) := by first | exact id rfl | simp only [evT]
@[simp] theorem eT_and_ (G : Env) (a b : _) (σ : Sg) (S : List D) : evT G (.and_ a b) σ S = ((evT G a σ S).bnd fun k S1 => if k = true then evT G b σ S1 else .ok false S1) := by first | exact id rfl | simp only [evT]
@[simp] theorem eT_or_ (G : Env) (a b : _) (σ : Sg) (S : List D) : evT G (.or_ a b) σ S = ((evT G a σ S).bnd fun k S1 => if k = true then .ok true S1 else evT G b σ S1) := by first | exact id rfl | simp only [evT]
@[simp] theorem eT_one (G : Env) (a : _) (σ : Sg) (S : List D) : evT G (.one a) σ S = (evT G a σ S) := by first | exact id rfl | simp only [evT]
@[simp] theorem eT_cmp (G : Env) (o a b : _) (σ : Sg) (S : List D) : evT G (.cmp o a b) σ S = ((evE G a σ S).bnd fun x S1 => (evE G b σ S1).bnd fun y S2 => R.lif (copD o x y) S2) := by first | exact id rfl | simp only [evT]
@[simp] theorem eT_chn (G : Env) (o p a b c : _) (σ : Sg) (S : List D) : evT G (.chn o p a b c) σ S = ((evE G a σ S).bnd fun x S1 => (evE G b σ S1).bnd fun y S2 => (R.lif (copD o x y) S2).bnd fun k S3 =>
      if k = true then (evE G c σ S3).bnd fun z S4 => R.lif (copD p y z) S4 else .ok false S3) := by first | exact id rfl | simp only [evT]
@[simp] theorem eT_cmpX (G : Env) (o a b : _) (σ : Sg) (S : List D) : evT G (.cmpX o a b) σ S = ((evE G a σ S).bnd fun x S1 => (evE G b σ S1).bnd fun y S2 => R.lif (copD o (deepD S2 x) (deepD S2 y)) S2) := by first | exact id rfl | simp only [evT]
@[simp] theorem eT_var (G : Env) (i : _) (σ : Sg) (S : List D) : evT G (.var i) σ S = (match σ[i]? with | some (.val d) => R.lif (truthy d) S | _ => .stuck) := by first | exact id rfl | simp only [evT]
@[simp] theorem eT_bvar (G : Env) (i : _) (σ : Sg) (S : List D) : evT G (.bvar i) σ S = (R.lif (((σ[i]?).bind Slot.get).bind truthy) S) := by first | exact id rfl | simp only [evT]
@[simp] theorem eT_call (G : Env) (f es : _) (σ : Sg) (S : List D) : evT G (.call f es) σ S = ((evEs G es σ S).bnd fun xs S1 => (G.fn f xs S1).bnd fun x S2 => R.lif (truthy x) S2) := by first | exact id rfl | simp only [evT]
@[simp] theorem eT_bi (G : Env) (b es : _) (σ : Sg) (S : List D) : evT G (.bi b es) σ S = ((evEs G es σ S).bnd fun xs S1 => R.lif ((biD b xs).bind truthy) S1) := by first | exact id rfl | simp only [evT]
@[simp] theorem eT_isi (G : Env) (a t : _) (σ : Sg) (S : List D) : evT G (.isi a t) σ S = ((evE G a σ S).bnd fun x S1 => R.lif (tyD t x) S1) := by first | exact id rfl | simp only [evT]
@[simp] theorem eT_sub (G : Env) (a i : _) (σ : Sg) (S : List D) : evT G (.sub a i) σ S = ((evE G a σ S).bnd fun x S1 => (evE G i σ S1).bnd fun y S2 => R.lif ((subD x y S2).bind truthy) S2) := by first | exact id rfl | simp only [evT]
@[simp] theorem eT_isx (G : Env) (a c : _) (σ : Sg) (S : List D) : evT G (.isx a c) σ S = ((evE G a σ S).bnd fun x S1 => R.lif (isxD c x) S1) := by first | exact id rfl | simp only [evT]
@[simp] theorem eT_isv (G : Env) (a : _) (σ : Sg) (S : List D) : evT G (.isv a) σ S = ((evE G a σ S).bnd fun x S1 => R.lif (isxD 0 x) S1) := by first | exact id rfl | simp only [evT]
@[simp] theorem eT_isi2 (G : Env) (a t u : _) (σ : Sg) (S : List D) : evT G (.isi2 a t u) σ S = ((evE G a σ S).bnd fun x S1 => R.lif (tyD2 t u x) S1) := by first | exact id rfl | simp only [evT]
@[simp] theorem eT_cfv (G : Env) (a ar es : _) (σ : Sg) (S : List D) : evT G (.cfv a ar es) σ S = (((evE G a σ S).bnd fun x S1 => match x with | .fn k => (evEs G es σ S1).bnd fun xs S2 => if ar[k]? = some xs.length then G.fn k xs S2 else .stuck | _ => .stuck).bnd fun y S3 => R.lif (truthy y) S3) := by first | exact id rfl | simp only [evT]
@[simp] theorem eC_none (G : Env) (σ : Sg) (S : List D) : evC G (.none) σ S = (.ok true S) := by first | exact id rfl | simp only [evC]
@[simp] theorem eC_some (G : Env) (c : _) (σ : Sg) (S : List D) : evC G (.some c) σ S = (R.nox (evT G c σ S)) := by first | exact id rfl | simp only [evC]
@[simp] theorem eO_none (G : Env) (σ : Sg) (S : List D) : evO G (.none) σ S = (.ok none S) := by first | exact id rfl | simp only [evO]
@[simp] theorem eO_some (G : Env) (e : _) (σ : Sg) (S : List D) : evO G (.some e) σ S = ((evE G e σ S).bnd fun x S1 => match x with | .int i => .ok (some i) S1 | _ => .stuck) := by first | exact id rfl | simp only [evO]
@[simp] theorem es_nil (G : Env) (σ : Sg) (S : List D) : evEs G (.nil) σ S = (.ok [] S) := by first | exact id rfl | simp only [evEs]
@[simp] theorem es_cons (G : Env) (e r : _) (σ : Sg) (S : List D) : evEs G (.cons e r) σ S = ((evE G e σ S).bnd fun x S1 => (evEs G r σ S1).bnd fun xs S2 => .ok (x :: xs) S2) := by first | exact id rfl | simp only [evEs]
@[simp] theorem ev_lc (G : Env) (e : Xp) (own : List Nat) (t : Tg) (it : Iq) (c : Xpo) (σ : Sg) (S : List D) : evE G (.lc e own t it c) σ S = (evI G it σ S).bnd fun xs S1 => (lcGo (lcF G e own t c σ) xs S1).bnd fun ys S2 => .ok (.lst ys) S2 := evE_lc G e own t it c σ S
@[simp] theorem eE_lrg (G : Env) (es : _) (σ : Sg) (S : List D) : evE G (.lrg es) σ S = ((evEs G es σ S).bnd fun xs S1 => R.lif ((rangeD xs).map .lst) S1) := by first | exact id rfl | simp only [evE]
@[simp] theorem eE_dgt (G : Env) (a k v : _) (σ : Sg) (S : List D) : evE G (.dgt a k v) σ S = ((evE G a σ S).bnd fun x S1 => match x with
    | .dct ks vs => (evE G k σ S1).bnd fun y S2 => (evE G v σ S2).bnd fun w S3 => R.lif (dgtD ks vs y w) S3
    | _ => .stuck) := by first | exact id rfl | simp only [evE]
@[simp] theorem ev_rv (G : Env) (e : Xp) (σ : Sg) (S : List D) : evI G (.rvs e) σ S = (evE G e σ S).bnd fun x S1 => R.lif ((revD x).bind iterD) S1 := by first | exact id rfl | simp only [evI]
@[simp] theorem ev_s (G : Env) (e : Xp) (σ : Sg) (S : List D) : evI G (.seq e) σ S = (evE G e σ S).bnd fun x S1 => R.lif (iterD x) S1 := by first | exact id rfl | simp only [evI]
@[simp] theorem ev_r (G : Env) (es : Xps) (σ : Sg) (S : List D) : evI G (.rng es) σ S = (evEs G es σ S).bnd fun xs S1 => R.lif (rangeD xs) S1 := by first | exact id rfl | simp only [evI]
@[simp] theorem ev_z (G : Env) (es : Xps) (σ : Sg) (S : List D) : evI G (.zip es) σ S = (evEs G es σ S).bnd fun xs S1 => R.lif (zipD xs) S1 := by first | exact id rfl | simp only [evI]
@[simp] theorem ev_e (G : Env) (e : Xp) (σ : Sg) (S : List D) : evI G (.enm e) σ S = (evE G e σ S).bnd fun x S1 => match x with | .lst xs => .ok (enumFrom 0 xs) S1 | .str x => .ok (enumFrom 0 (x.map fun c => .str [c])) S1 | _ => .stuck := by first | exact id rfl | simp only [evI]
/-! ### operations in short -/
@[simp] theorem bop_addI (i j : Int) : bopD .add (.int i) (.int j) = some (.int (i + j)) := id rfl
@[simp] theorem bop_subI (i j : Int) : bopD .sub (.int i) (.int j) = some (.int (i - j)) := id rfl
theorem bop_mulI {i j : Int} (h : mulOk i j = true) : bopD .mul (.int i) (.int j) = some (.int (i * j)) := if_pos h
theorem bop_modI {i j : Int} (h : 0 < j) : bopD .mod (.int i) (.int j) = some (.int (i % j)) := by
  have e : bopD .mod (.int i) (.int j) = some (.int (i.fmod j)) := if_pos (by omega)
  rw [e, Int.fmod_eq_emod_of_nonneg i (by omega)]
theorem bop_fdivI {i j : Int} (h : j ≠ 0) (h2 : j.natAbs.log2 < 9000) : bopD .fdiv (.int i) (.int j) = some (.int (i.fdiv j)) := if_pos ⟨h, h2⟩
theorem bop_divI {i j : Int} (h : 0 < j) (h2 : j.natAbs.log2 < 9000) : bopD .fdiv (.int i) (.int j) = some (.int (i / j)) := by
  rw [bop_fdivI (by omega) h2, Int.fdiv_eq_ediv_of_nonneg i (by omega)]
theorem bop_powI {i j : Int} (h0 : 0 ≤ j) (h : ((i.natAbs.log2 + 1 : Nat) : Int) * j ≤ 2 ^ 27) : bopD .pow (.int i) (.int j) = some (.int (i ^ j.toNat)) := if_pos ⟨h0, h⟩
theorem bop_addS {x y : List Nat} (h : x.length + y.length ≤ SZ) : bopD .add (.str x) (.str y) = some (.str (x ++ y)) := if_pos h
theorem bop_addL {x y : List D} (h : x.length + y.length ≤ SZ) : bopD .add (.lst x) (.lst y) = some (.lst (x ++ y)) := if_pos h
theorem bop_addT {x y : List D} (h : x.length + y.length ≤ SZ) : bopD .add (.tup x) (.tup y) = some (.tup (x ++ y)) := if_pos h
@[simp] theorem cop_ltI (i j : Int) : copD .lt (.int i) (.int j) = some (decide (i < j)) := id rfl
@[simp] theorem cop_leI (i j : Int) : copD .le (.int i) (.int j) = some (decide (i ≤ j)) := id rfl
@[simp] theorem cop_gtI (i j : Int) : copD .gt (.int i) (.int j) = some (decide (j < i)) := id rfl
@[simp] theorem cop_geI (i j : Int) : copD .ge (.int i) (.int j) = some (decide (j ≤ i)) := id rfl
@[simp] theorem cop_ltS (x y : List Nat) : copD .lt (.str x) (.str y) = some (lexLtN x y) := id rfl
@[simp] theorem cop_leS (x y : List Nat) : copD .le (.str x) (.str y) = some (!lexLtN y x) := id rfl
@[simp] theorem cop_gtS (x y : List Nat) : copD .gt (.str x) (.str y) = some (lexLtN y x) := id rfl
@[simp] theorem cop_geS (x y : List Nat) : copD .ge (.str x) (.str y) = some (!lexLtN x y) := id rfl
@[simp] theorem cop_eqI (i j : Int) : copD .eq (.int i) (.int j) = some (i == j) := id rfl
@[simp] theorem cop_neI (i j : Int) : copD .ne (.int i) (.int j) = some (!(i == j)) := id rfl
@[simp] theorem cop_eqS (i j : List Nat) : copD .eq (.str i) (.str j) = some (i == j) := id rfl
@[simp] theorem cop_neS (i j : List Nat) : copD .ne (.str i) (.str j) = some (!(i == j)) := id rfl
@[simp] theorem cop_in (x y : D) : copD .isin x y = inD x y := id rfl
@[simp] theorem cop_notin (x y : D) : copD .notin x y = (inD x y).map (!·) := id rfl
@[simp] theorem cop_is (x y : D) : copD .is x y = isD x y := id rfl
theorem cop_eq {x y : D} (h : cmpOk x y = true) : copD .eq x y = some (eqD x y) := if_pos h
theorem cop_ne {x y : D} (h : cmpOk x y = true) : copD .ne x y = some (!eqD x y) := if_pos h
@[simp] theorem bi_int (i : Int) : biD .int [.int i] = some (.int i) := id rfl
@[simp] theorem bi_abs (i : Int) : biD .abs [.int i] = some (.int (if i < 0 then -i else i)) := id rfl
@[simp] theorem bi_max (i j : Int) : biD .max [.int i, .int j] = some (.int (if j > i then j else i)) := id rfl
@[simp] theorem bi_lenS (x : List Nat) : biD .len [.str x] = some (.int x.length) := id rfl
@[simp] theorem bi_lenL (x : List D) : biD .len [.lst x] = some (.int x.length) := id rfl
@[simp] theorem bi_lenT (x : List D) : biD .len [.tup x] = some (.int x.length) := id rfl
@[simp] theorem bi_lenC (x : List Int) : biD .len [.scr x] = some (.int x.length) := id rfl
@[simp] theorem bi_lenD (x y : List D) : biD .len [.dct x y] = some (.int y.length) := id rfl
@[simp] theorem sub_L (xs : List D) (i : Int) (S : List D) : subD (.lst xs) (.int i) S = ixD xs i := id rfl
@[simp] theorem sub_T (xs : List D) (i : Int) (S : List D) : subD (.tup xs) (.int i) S = ixD xs i := id rfl
@[simp] theorem sub_S (xs : List Nat) (i : Int) (S : List D) : subD (.str xs) (.int i) S = (ixD xs i).map fun c => .str [c] := id rfl
@[simp] theorem sub_C (xs : List Int) (i : Int) (S : List D) : subD (.scr xs) (.int i) S = (ixD xs i).map .int := id rfl
theorem sub_R {n : Nat} {xs : List D} {S : List D} (i : Int) (h : S[n]? = some (.lst xs)) : subD (.ref n) (.int i) S = ixD xs i := by
  simp only [subD, h]
@[simp] theorem sub_D (ks vs : List D) (k : D) (S : List D) : subD (.dct ks vs) k S = (if kmOk ks k = true then dget ks vs k else none) := by simp only [subD]
@[simp] theorem mt_bits (i : Int) : mtD .bitlen (.int i) [] = some (.int (bitLen i.natAbs)) := id rfl
@[simp] theorem mtOk_bits (i : Int) : mtOk .bitlen (.int i) = true := id rfl
@[simp] theorem mtOk_join (i : List Nat) : mtOk .join (.str i) = true := id rfl

/-! ### the drawn generator -/
/-- the n-th shared object is a generator that has been turned at most k times -/
def Gn (n k : Nat) (S : List D) : Prop := ∃ g0 g1 g2 : Int, S[n]? = some (.lst [.int g0, .int g1, .int g2]) ∧ 0 ≤ g0 ∧ 0 ≤ g1 ∧ g1 < 2147483647 ∧ 0 ≤ g2 ∧ g2 ≤ (k : Int)
theorem Gn.mono {n j k : Nat} {S : List D} (h : Gn n j S) (hk : j ≤ k) : Gn n k S := by
  obtain ⟨g0, g1, g2, h1, h2, h3, h4, h5, h6⟩ := h
  exact ⟨g0, g1, g2, h1, h2, h3, h4, h5, by omega⟩
def bHash : Sms := (.cons (.asg (.nm 2) (.bin .mod (.bi .int (.cons (.bin .add (.bin .add (.bin .add (.bin .mul (.var 0) (.lit (.int 1140671))) (.bin .mul (.bin .mul (.lit (.int 27644437)) (.var 1)) (.var 1))) (.bin .mul (.lit (.int 131)) (.var 1))) (.lit (.int 19))) .nil)) (.lit (.int 2147483629)))) (.cons (.asg (.nm 2) (.bin .mod (.bi .int (.cons (.bin .add (.bin .add (.bin .mul (.var 2) (.var 2)) (.bin .mul (.lit (.int 62089)) (.var 1))) (.lit (.int 32416187))) .nil)) (.lit (.int 2147483587)))) (.cons (.ret (.bin .mod (.bi .int (.cons (.bin .mul (.var 2) (.lit (.int 48271))) .nil)) (.lit (.int 2147483647)))) .nil)))
def fHash : List D → List D → R D := runF ⟨fnT [], gvT []⟩ 3 bHash
theorem mulOk_l {i j : Int} (h : i.natAbs < 2 ^ 64) : mulOk i j = true := by unfold mulOk; rw [decide_eq_true h]; rfl
theorem mulOk_r {i j : Int} (h : j.natAbs < 2 ^ 64) : mulOk i j = true := by unfold mulOk; rw [decide_eq_true h, Bool.or_true]; rfl
theorem hash_ok {s x : Int} {S : List D} (hx : x.natAbs < 2 ^ 64) : ∃ r : Int, fHash [.int s, .int x] S = .ok (.int r) S := by
  have m1 : mulOk s 1140671 = true := mulOk_r (by decide)
  have m2 : mulOk 27644437 x = true := mulOk_l (by decide)
  have m3 : mulOk (27644437 * x) x = true := mulOk_r hx
  have m4 : mulOk 131 x = true := mulOk_l (by decide)
  have m5 : mulOk 62089 x = true := mulOk_l (by decide)
  have m6 : ∀ y : Int, mulOk (y % 2147483629) (y % 2147483629) = true := fun y => mulOk_l (by
    have h1 := Int.emod_nonneg y (show (2147483629 : Int) ≠ 0 by decide)
    have h2 := Int.emod_lt_of_pos y (show (0 : Int) < 2147483629 by decide)
    omega)
  have m7 : ∀ y : Int, mulOk y 48271 = true := fun y => mulOk_r (by decide)
  refine ⟨?r, ?_⟩
  rotate_left
  · have d1 : ∀ y : Int, bopD .mod (.int y) (.int 2147483629) = some (.int (y % 2147483629)) := fun y => bop_modI (by decide)
    have d2 : ∀ y : Int, bopD .mod (.int y) (.int 2147483587) = some (.int (y % 2147483587)) := fun y => bop_modI (by decide)
    have d3 : ∀ y : Int, bopD .mod (.int y) (.int 2147483647) = some (.int (y % 2147483647)) := fun y => bop_modI (by decide)
    simp [fHash, bHash, runF, endR, exSs, exS, bop_mulI m1, bop_mulI m2, bop_mulI m3, bop_mulI m4, bop_mulI m5, fun y => bop_mulI (m6 y), fun y => bop_mulI (m7 y), d1, d2, d3, setT]
    rfl
def bRand : Sms := (.cons (.ife (.cmp .gt (.sub (.var 0) (.lit (.int 0))) (.lit (.int 0))) (.cons (.asg (.nm 2) (.bin .mod (.bi .int (.cons (.sub (.var 0) (.lit (.int 0))) .nil)) (.var 1))) (.cons (.putR (.var 0) (.lit (.int 0)) (.bin .fdiv (.sub (.var 0) (.lit (.int 0))) (.var 1))) (.cons (.ret (.var 2)) .nil))) .nil) (.cons (.asg (.nm 2) (.lit (.int 0))) (.cons (.for_ (.nm 3) (.rng (.cons (.bin .add (.lit (.int 1)) (.bin .fdiv (.mt .bitlen (.var 1) .nil) (.lit (.int 30)))) .nil)) (.cons (.putR (.var 0) (.lit (.int 2)) (.bin .add (.sub (.var 0) (.lit (.int 2))) (.lit (.int 1)))) (.cons (.asg (.nm 2) (.bin .add (.bin .mul (.var 2) (.lit (.int 2147483587))) (.call 0 (.cons (.sub (.var 0) (.lit (.int 1))) (.cons (.sub (.var 0) (.lit (.int 2))) .nil))))) .nil))) (.cons (.ret (.bin .mod (.bi .int (.cons (.var 2) .nil)) (.var 1))) .nil))))
def fRand : List D → List D → R D := runF ⟨fnT [fHash], gvT []⟩ 4 bRand
theorem set_set {S : List D} {n : Nat} {d e : D} : (S.set n d).set n e = S.set n e := List.set_set ..
theorem ix3_0 {a b c : D} : ixD [a, b, c] 0 = some a := rfl
theorem ix3_1 {a b c : D} : ixD [a, b, c] 1 = some b := rfl
theorem ix3_2 {a b c : D} : ixD [a, b, c] 2 = some c := rfl
theorem rand_ok {n k : Nat} {b : Int} {S : List D} {P : D → List D → Prop} (hG : Gn n k S) (hk : k + 100 < 2 ^ 63) (h0 : 0 < b) (hb : b.natAbs < 2 ^ 2000) (h : ∀ r S', 0 ≤ r → r < b → Gn n (k + 100) S' → P (.int r) S') : Ok (fRand [.ref n, .int b] S) P := by
  obtain ⟨g0, g1, g2, e, p0, p1, p1', p2, p2'⟩ := hG
  have hn : n < S.length := (List.getElem?_eq_some_iff.mp e).1
  refine Ok_run (Ok_cons (Ok_ife ?_))
  have s0 : subD (.ref n) (.int 0) S = some (.int g0) := sub_R 0 e
  have hlog : b.natAbs.log2 < 2000 := by
    by_cases hb0 : b.natAbs = 0
    · rw [hb0]; decide
    · exact (Nat.log2_lt hb0).mpr hb
  simp [evE, evT, evEs, s0]
  by_cases hg : 0 < g0
  · rw [if_pos hg]
    refine Ok_cons (Ok_asg ?_)
    simp [evE, evEs, s0, bop_modI h0, SeqP]
    refine Ok_cons (Ok_putR (y := .int (g0 / b)) (n := n) (i := 0) (j := 0) (xs := [.int g0, .int g1, .int g2]) ?_ ?_ ?_ e rfl rfl ?_)
    · simp [evE, s0, bop_divI h0 (by omega)]
    · simp [evE]
    · simp [evE]
    · simp [SeqP]
      refine Ok_cons (Ok_ret ?_)
      simp [evE, SeqP, EndP]
      exact h _ _ (Int.emod_nonneg _ (by omega)) (Int.emod_lt_of_pos _ h0) ⟨g0 / b, g1, g2, by simp [hn], Int.ediv_nonneg p0 (by omega), p1, p1', p2, by omega⟩
  · rw [if_neg hg]
    refine Ok_nil ?_
    simp [SeqP]
    refine Ok_cons (Ok_asg ?_)
    simp [evE, SeqP]
    refine Ok_cons (Ok_for ?_)
    have hbl : bitLen b.natAbs ≤ 2000 := by unfold bitLen; split <;> omega
    have hc1 : (0 : Int) ≤ 1 + (bitLen b.natAbs : Int) / 30 := by omega
    have hc2 : (1 : Int) + (bitLen b.natAbs : Int) / 30 ≤ 68 := by omega
    have d30 : bopD .fdiv (.int (bitLen b.natAbs : Int)) (.int 30) = some (.int ((bitLen b.natAbs : Int) / 30)) := bop_divI (by decide) (by decide)
    generalize hcv : (1 : Int) + (bitLen b.natAbs : Int) / 30 = c at hc1 hc2
    have hr : rangeD [.int c] = some ((List.range c.toNat).map fun (k : Nat) => .int (k : Int)) := if_pos ⟨by omega, by show c ≤ 16777216; omega⟩
    simp [d30, hcv, hr]
    refine Ok_forGo (fun j σ S' => ∃ (d : Int) (t : Slot), σ = [.val (.ref n), .val (.int b), .val (.int d), t] ∧ ∃ g : Int, S'[n]? = some (.lst [.int g0, .int g1, .int g]) ∧ 0 ≤ g ∧ g ≤ ((k + j : Nat) : Int)) _ 0 _ _ ⟨0, .un, rfl, g2, e, p2, by omega⟩ (fun j x σ S' hx hI => ?_) fun σ S' hI => ?_
    · obtain ⟨d, t, rfl, g, e', q1, q2⟩ := hI
      have hj : j < c.toNat := by
        have := (List.getElem?_eq_some_iff.mp hx).1
        simpa using this
      refine ⟨[.val (.ref n), .val (.int b), .val (.int d), .val x], rfl, ?_⟩
      have hn' : n < S'.length := (List.getElem?_eq_some_iff.mp e').1
      have t2 : subD (.ref n) (.int 2) S' = some (.int g) := sub_R 2 e'
      refine Ok_cons (Ok_putR (y := .int (g + 1)) (n := n) (i := 2) (j := 2) (xs := [.int g0, .int g1, .int g]) ?_ ?_ ?_ e' rfl rfl ?_)
      · simp [evE, t2]
      · simp [evE]
      · simp [evE]
      · simp [SeqP]
        have e2 : (S'.set n (.lst [.int g0, .int g1, .int (g + 1)]))[n]? = some (.lst [.int g0, .int g1, .int (g + 1)]) := by rw [List.getElem?_set_self hn']
        generalize S'.set n (.lst [.int g0, .int g1, .int (g + 1)]) = S2 at e2
        have u1 : subD (.ref n) (.int 1) S2 = some (.int g1) := sub_R 1 e2
        have u2 : subD (.ref n) (.int 2) S2 = some (.int (g + 1)) := sub_R 2 e2
        obtain ⟨r, hr⟩ := hash_ok (s := g1) (x := g + 1) (S := S2) (by omega)
        have hfn : fnT [fHash] 0 [.int g1, .int (g + 1)] S2 = .ok (.int r) S2 := hr
        have hm : bopD .mul (.int d) (.int 2147483587) = some (.int (d * 2147483587)) := bop_mulI (mulOk_r (by decide))
        refine Ok_cons (Ok_asg ?_)
        simp [evE, evEs, u1, u2, hfn, hm]
        refine SeqP_i (Ok_nil ?_)
        refine ⟨⟨_, _, rfl⟩, g + 1, e2, by omega, by omega⟩
    · obtain ⟨d, t, rfl, g, e', q1, q2⟩ := hI
      simp at q2
      refine Ok_cons (Ok_ret ?_)
      simp [evE, evEs, bop_modI h0]
      exact h _ _ (Int.emod_nonneg _ (by omega)) (Int.emod_lt_of_pos _ h0) ⟨g0, g1, g, e', p0, p1, p1', q1, by omega⟩
/-! ### rows of a suite -/
theorem C_asg {G : Env} {i : Nat} {e : Xp} {r : Sms} {σ : Sg} {S : List D} {P : Fl × Sg → List D → Prop} (h : Ok (evE G e σ S) fun d S1 => Ok (exSs G r (σ.set i (.val d)) S1) P) : Ok (exSs G (.cons (.asg (.nm i) e) r) σ S) P := Ok_cons (Ok_asg h)
theorem C_asgO {G : Env} {i : Nat} {e : Xp} {r : Sms} {σ : Sg} {S : List D} {P : Fl × Sg → List D → Prop} (h : Ok (evE G e σ S) fun d S1 => isOb d = true ∧ Ok (exSs G r (σ.set i (.own d)) S1) P) : Ok (exSs G (.cons (.asgO i e) r) σ S) P := Ok_cons (Ok_asgO h)
theorem C_ret {G : Env} {e : Xp} {r : Sms} {σ : Sg} {S : List D} {P : Fl × Sg → List D → Prop} (h : Ok (evE G e σ S) fun d S1 => P (.rt d, σ) S1) : Ok (exSs G (.cons (.ret e) r) σ S) P := Ok_cons (Ok_ret h)
theorem C_retR {G : Env} {e : Xp} {r : Sms} {σ : Sg} {S : List D} {P : Fl × Sg → List D → Prop} (h : Ok (evE G e σ S) fun d S1 => obI d = true ∧ P (.rt (.ref S1.length), σ) (S1 ++ [d])) : Ok (exSs G (.cons (.retR e) r) σ S) P := Ok_cons (Ok_retR h)
theorem C_ife {G : Env} {c : Xp} {a b r : Sms} {σ : Sg} {S : List D} {P : Fl × Sg → List D → Prop} (h : Ok (evT G c σ S) fun k S1 => if k = true then Ok (exSs G a σ S1) (SeqP G r P) else Ok (exSs G b σ S1) (SeqP G r P)) : Ok (exSs G (.cons (.ife c a b) r) σ S) P := Ok_cons (Ok_ife h)
/-- `if c: return ..`, then the rest -/
theorem C_if1 {G : Env} {c e : Xp} {r : Sms} {σ : Sg} {S : List D} {P : Fl × Sg → List D → Prop} (h : Ok (evT G c σ S) fun k S1 => if k = true then Ok (evE G e σ S1) (fun d S2 => P (.rt d, σ) S2) else Ok (exSs G r σ S1) P) : Ok (exSs G (.cons (.ife c (.cons (.ret e) .nil) .nil) r) σ S) P := by
  refine C_ife (h.mono fun k S1 h => ?_)
  cases k with
  | true => exact C_ret h
  | false =>
    have h : Ok (exSs G r σ S1) P := h
    exact Ok_nil (G := G) (SeqP_i h)
theorem C_for {G : Env} {t : Tg} {it : Iq} {b r : Sms} {σ : Sg} {S : List D} {P : Fl × Sg → List D → Prop} (h : Ok (evI G it σ S) fun xs S1 => Ok (forGo t (fun σ S => exSs G b σ S) xs σ S1) (SeqP G r P)) : Ok (exSs G (.cons (.for_ t it b) r) σ S) P := Ok_cons (Ok_for h)

/-! ### a generator, a pick -/
def bCell : Sms := (.cons (.ife (.cmp .lt (.var 1) (.bi .len (.cons (.var 0) .nil))) (.cons (.ret (.sub (.var 0) (.var 1))) .nil) .nil) (.cons (.ret (.bin .mod (.bi .sum (.cons (.sli (.var 0) .none (.some (.lit (.int 1)))) .nil)) (.lit (.int 1000003)))) .nil))
def fCell : List D → List D → R D := runF ⟨fnT [], gvT []⟩ 2 bCell
def bGen : Sms := (.cons (.asg (.nm 2) (.call 0 (.cons (.var 0) (.cons (.var 1) .nil)))) (.cons (.retR (.lst (.cons (.bin .mod (.bi .int (.cons (.bi .max (.cons (.bin .sub (.var 2) (.bin .pow (.lit (.int 10)) (.lit (.int 18)))) (.cons (.lit (.int 0)) .nil))) .nil)) (.bin .pow (.bin .pow (.lit (.int 10)) (.lit (.int 60))) (.lit (.int 10)))) (.cons (.bin .mod (.bi .int (.cons (.var 2) .nil)) (.lit (.int 2147483647))) (.cons (.bin .mul (.lit (.int 1000)) (.var 1)) .nil))))) .nil))
def fGen : List D → List D → R D := runF ⟨fnT [fCell], gvT []⟩ 3 bGen
def bPick : Sms := (.cons (.ret (.sub (.var 1) (.call 0 (.cons (.var 0) (.cons (.bi .len (.cons (.var 1) .nil)) .nil))))) .nil)
def fPick : List D → List D → R D := runF ⟨fnT [fRand], gvT []⟩ 2 bPick
theorem intsOf_map : ∀ l : List Int, intsOf (l.map .int) = some l
  | [] => rfl
  | x :: r => by show (intsOf (r.map .int)).map (x :: ·) = _; rw [intsOf_map r]; rfl
theorem atI_lt {α : Type} {xs : List α} {i : Int} (h0 : 0 ≤ i) (h : i < xs.length) : ∃ x, ixD xs i = some x ∧ x ∈ xs := by
  have hi : i.toNat < xs.length := by omega
  refine ⟨xs[i.toNat], ?_, List.getElem_mem hi⟩
  have e : L2.ixN xs.length i = some i.toNat := by
    unfold L2.ixN
    rw [if_pos h0, if_pos (by omega)]
  unfold ixD L2.atI
  rw [e]
  exact List.getElem?_eq_getElem hi
theorem cell_ok {ns : List Int} {i : Nat} {S : List D} : ∃ r : Int, fCell [.scr ns, .int i] S = .ok (.int r) S := by
  have key : Ok (fCell [.scr ns, .int i] S) fun d S' => ∃ r, d = .int r ∧ S' = S := by
    refine Ok_run (C_if1 ?_)
    simp [evT, evE, evEs]
    by_cases h : (i : Int) < ns.length
    · obtain ⟨x, e, _⟩ := atI_lt (xs := ns) (i := (i : Int)) (by omega) h
      rw [if_pos (by omega)]
      simp [evE, e, EndP]
    · rw [if_neg (by omega)]
      refine C_ret ?_
      have e1 : biD .sum [.lst ((cut ns none (some 1)).map .int)] = some (.int (cut ns none (some 1)).sum) := by
        show (intsOf _).map _ = _
        rw [intsOf_map]; rfl
      simp [evE, evEs, evO, sliD, e1, bop_modI, EndP]
  obtain ⟨d, S', e, r, rfl, rfl⟩ := key.ex
  exact ⟨r, e⟩
theorem gen_ok {ns : List Int} {i : Nat} {S : List D} {P : D → List D → Prop} (h : ∀ S', S'.length = S.length + 1 → Gn S.length (1000 * i) S' → P (.ref S.length) S') : Ok (fGen [.scr ns, .int i] S) P := by
  obtain ⟨r, hr⟩ := cell_ok (ns := ns) (i := i) (S := S)
  have hf : fnT [fCell] 0 [.scr ns, .int i] S = .ok (.int r) S := hr
  have p1 : bopD .pow (.int 10) (.int 18) = some (.int (10 ^ 18)) := bop_powI (by decide) (by decide)
  have p2 : bopD .pow (.int 10) (.int 60) = some (.int (10 ^ 60)) := bop_powI (by decide) (by decide)
  have p3 : bopD .pow (.int (10 ^ 60)) (.int 10) = some (.int ((10 ^ 60) ^ 10)) := bop_powI (by decide) (by decide)
  have m1 : bopD .mul (.int 1000) (.int i) = some (.int (1000 * i)) := bop_mulI (mulOk_l (by decide))
  have d1 : ∀ x : Int, bopD .mod (.int x) (.int ((10 ^ 60) ^ 10)) = some (.int (x % ((10 ^ 60) ^ 10))) := fun x => bop_modI (by decide)
  have d2 : ∀ x : Int, bopD .mod (.int x) (.int 2147483647) = some (.int (x % 2147483647)) := fun x => bop_modI (by decide)
  refine Ok_run (C_asg ?_)
  simp only [List.map_cons, List.map_nil, evE, evEs]
  simp [hf]
  refine C_retR ?_
  simp only [evE, evEs]
  simp only [List.set_cons_succ, List.set_cons_zero, List.getElem?_cons_succ, List.getElem?_cons_zero, R.bnd_ok, p1, p2, p3, m1, R.lif_some, bop_subI, bi_max, bi_int, d1, d2]
  simp only [List.length_cons, List.length_nil]
  rw [if_pos (by decide)]
  simp only [Ok_ok]
  refine ⟨rfl, h _ (by simp) ?_⟩
  refine ⟨_, _, _, by rw [List.getElem?_append_right (Nat.le_refl _), Nat.sub_self]; rfl, Int.emod_nonneg _ (by decide), Int.emod_nonneg _ (by decide), Int.emod_lt_of_pos _ (by decide), by omega, by omega⟩
theorem pickL {n k : Nat} {xs : List D} {S : List D} {P : D → List D → Prop} (hG : Gn n k S) (hk : k + 100 < 2 ^ 63) (h0 : xs ≠ []) (hb : xs.length ≤ SZ) (h : ∀ x S', x ∈ xs → Gn n (k + 100) S' → P x S') : Ok (fPick [.ref n, .lst xs] S) P := by
  have hl : 0 < xs.length := List.length_pos_iff.mpr h0
  refine Ok_run (C_ret ?_)
  simp only [List.map_cons, List.map_nil, evE, evEs]
  simp only [List.cons_append, List.getElem?_cons_succ, List.getElem?_cons_zero, R.bnd_ok, R.lif_some, bi_lenL, Ok_bnd, Ok_ok]
  show Ok (fRand [.ref n, .int xs.length] S) _
  refine rand_ok hG hk (by omega) (Nat.lt_of_le_of_lt (show ((xs.length : Int)).natAbs ≤ 16777216 from hb) (by decide)) fun r S' r0 r1 g => ?_
  obtain ⟨x, e, hx⟩ := atI_lt r0 r1
  exact Ok_lif (a := x) (by rw [sub_L]; exact e) (h x S' hx g)
theorem pickS {n k : Nat} {xs : List Nat} {S : List D} {P : D → List D → Prop} (hG : Gn n k S) (hk : k + 100 < 2 ^ 63) (h0 : xs ≠ []) (hb : xs.length ≤ SZ) (h : ∀ x S', x ∈ xs → Gn n (k + 100) S' → P (.str [x]) S') : Ok (fPick [.ref n, .str xs] S) P := by
  have hl : 0 < xs.length := List.length_pos_iff.mpr h0
  refine Ok_run (C_ret ?_)
  simp only [List.map_cons, List.map_nil, evE, evEs]
  simp only [List.cons_append, List.getElem?_cons_succ, List.getElem?_cons_zero, R.bnd_ok, R.lif_some, bi_lenS, Ok_bnd, Ok_ok]
  show Ok (fRand [.ref n, .int xs.length] S) _
  refine rand_ok hG hk (by omega) (Nat.lt_of_le_of_lt (show ((xs.length : Int)).natAbs ≤ 16777216 from hb) (by decide)) fun r S' r0 r1 g => ?_
  obtain ⟨x, e, hx⟩ := atI_lt r0 r1
  exact Ok_lif (a := .str [x]) (by rw [sub_S, e]; rfl) (by show P (.str [x]) S'; exact h x S' hx g)
theorem range1 {n : Int} (h1 : -(2 ^ 62) ≤ n) (h2 : n ≤ 16777216) : rangeD [.int n] = some ((List.range n.toNat).map fun (k : Nat) => .int (k : Int)) := by
  unfold rangeD
  exact if_pos ⟨h1, h2⟩
theorem range2 {a b : Int} (h1 : -(2 ^ 62) ≤ a) (h2 : a < 2 ^ 62) (h3 : -(2 ^ 62) ≤ b) (h4 : b < 2 ^ 62) (h5 : b - a ≤ 16777216) : rangeD [.int a, .int b] = some ((List.range (b - a).toNat).map fun (k : Nat) => .int (a + (k : Int))) := by
  unfold rangeD
  exact if_pos ⟨h1, h2, h3, h4, h5⟩
@[simp] theorem fnT_0 (a0 : List D → List D → R D) (l : List (List D → List D → R D)) : fnT (a0 :: l) 0 = a0 := id rfl
@[simp] theorem fnT_1 (a0 a1 : List D → List D → R D) (l : List (List D → List D → R D)) : fnT (a0 :: a1 :: l) 1 = a1 := id rfl
@[simp] theorem fnT_2 (a0 a1 a2 : List D → List D → R D) (l : List (List D → List D → R D)) : fnT (a0 :: a1 :: a2 :: l) 2 = a2 := id rfl
@[simp] theorem fnT_3 (a0 a1 a2 a3 : List D → List D → R D) (l : List (List D → List D → R D)) : fnT (a0 :: a1 :: a2 :: a3 :: l) 3 = a3 := id rfl
@[simp] theorem fnT_4 (a0 a1 a2 a3 a4 : List D → List D → R D) (l : List (List D → List D → R D)) : fnT (a0 :: a1 :: a2 :: a3 :: a4 :: l) 4 = a4 := id rfl
@[simp] theorem fnT_5 (a0 a1 a2 a3 a4 a5 : List D → List D → R D) (l : List (List D → List D → R D)) : fnT (a0 :: a1 :: a2 :: a3 :: a4 :: a5 :: l) 5 = a5 := id rfl
@[simp] theorem fnT_6 (a0 a1 a2 a3 a4 a5 a6 : List D → List D → R D) (l : List (List D → List D → R D)) : fnT (a0 :: a1 :: a2 :: a3 :: a4 :: a5 :: a6 :: l) 6 = a6 := id rfl
@[simp] theorem fnT_7 (a0 a1 a2 a3 a4 a5 a6 a7 : List D → List D → R D) (l : List (List D → List D → R D)) : fnT (a0 :: a1 :: a2 :: a3 :: a4 :: a5 :: a6 :: a7 :: l) 7 = a7 := id rfl
@[simp] theorem fnT_8 (a0 a1 a2 a3 a4 a5 a6 a7 a8 : List D → List D → R D) (l : List (List D → List D → R D)) : fnT (a0 :: a1 :: a2 :: a3 :: a4 :: a5 :: a6 :: a7 :: a8 :: l) 8 = a8 := id rfl
@[simp] theorem fnT_9 (a0 a1 a2 a3 a4 a5 a6 a7 a8 a9 : List D → List D → R D) (l : List (List D → List D → R D)) : fnT (a0 :: a1 :: a2 :: a3 :: a4 :: a5 :: a6 :: a7 :: a8 :: a9 :: l) 9 = a9 := id rfl
@[simp] theorem fnT_10 (a0 a1 a2 a3 a4 a5 a6 a7 a8 a9 a10 : List D → List D → R D) (l : List (List D → List D → R D)) : fnT (a0 :: a1 :: a2 :: a3 :: a4 :: a5 :: a6 :: a7 :: a8 :: a9 :: a10 :: l) 10 = a10 := id rfl
@[simp] theorem fnT_11 (a0 a1 a2 a3 a4 a5 a6 a7 a8 a9 a10 a11 : List D → List D → R D) (l : List (List D → List D → R D)) : fnT (a0 :: a1 :: a2 :: a3 :: a4 :: a5 :: a6 :: a7 :: a8 :: a9 :: a10 :: a11 :: l) 11 = a11 := id rfl
@[simp] theorem fnT_12 (a0 a1 a2 a3 a4 a5 a6 a7 a8 a9 a10 a11 a12 : List D → List D → R D) (l : List (List D → List D → R D)) : fnT (a0 :: a1 :: a2 :: a3 :: a4 :: a5 :: a6 :: a7 :: a8 :: a9 :: a10 :: a11 :: a12 :: l) 12 = a12 := id rfl
@[simp] theorem fnT_13 (a0 a1 a2 a3 a4 a5 a6 a7 a8 a9 a10 a11 a12 a13 : List D → List D → R D) (l : List (List D → List D → R D)) : fnT (a0 :: a1 :: a2 :: a3 :: a4 :: a5 :: a6 :: a7 :: a8 :: a9 :: a10 :: a11 :: a12 :: a13 :: l) 13 = a13 := id rfl
@[simp] theorem fnT_14 (a0 a1 a2 a3 a4 a5 a6 a7 a8 a9 a10 a11 a12 a13 a14 : List D → List D → R D) (l : List (List D → List D → R D)) : fnT (a0 :: a1 :: a2 :: a3 :: a4 :: a5 :: a6 :: a7 :: a8 :: a9 :: a10 :: a11 :: a12 :: a13 :: a14 :: l) 14 = a14 := id rfl
@[simp] theorem fnT_15 (a0 a1 a2 a3 a4 a5 a6 a7 a8 a9 a10 a11 a12 a13 a14 a15 : List D → List D → R D) (l : List (List D → List D → R D)) : fnT (a0 :: a1 :: a2 :: a3 :: a4 :: a5 :: a6 :: a7 :: a8 :: a9 :: a10 :: a11 :: a12 :: a13 :: a14 :: a15 :: l) 15 = a15 := id rfl
/-! ### more rows of a suite -/
theorem Ok_eq {α : Type} {m : R α} {a : α} {S : List D} {P : α → List D → Prop} (e : m = .ok a S) (h : P a S) : Ok m P := by rw [e]; exact ⟨h⟩
theorem run_eq {G : Env} {n : Nat} {b : Sms} {ds S : List D} {v : D} (h : Ok (exSs G b (ds.map .val ++ List.replicate (n - ds.length) .un) S) (EndP fun d S' => d = v ∧ S' = S)) : runF G n b ds S = .ok v S := by
  obtain ⟨d, S', e, rfl, rfl⟩ := (Ok_run h).ex
  exact e
theorem C_asgT {G : Env} {t : Tg} {e : Xp} {r : Sms} {σ : Sg} {S : List D} {P : Fl × Sg → List D → Prop} (h : Ok (evE G e σ S) fun d S1 => ∃ σ1, setT t d σ = some σ1 ∧ Ok (exSs G r σ1 S1) P) : Ok (exSs G (.cons (.asg t e) r) σ S) P := by
  refine Ok_cons ?_
  simp only [exS]
  refine Ok_gt (h.mono fun d S1 ⟨σ1, h1, h2⟩ => ?_)
  rw [h1]
  exact ⟨h2⟩
theorem C_par {G : Env} {ts : List Nat} {es : Xps} {r : Sms} {σ : Sg} {S : List D} {P : Fl × Sg → List D → Prop} (h : Ok (evEs G es σ S) fun xs S1 => ∃ σ1, setPar ts xs σ = some σ1 ∧ Ok (exSs G r σ1 S1) P) : Ok (exSs G (.cons (.par ts es) r) σ S) P := by
  refine Ok_cons ?_
  simp only [exS]
  refine Ok_gt (h.mono fun d S1 ⟨σ1, h1, h2⟩ => ?_)
  rw [h1]
  exact ⟨h2⟩
theorem C_exp {G : Env} {e : Xp} {r : Sms} {σ : Sg} {S : List D} {P : Fl × Sg → List D → Prop} (h : Ok (evE G e σ S) fun _ S1 => Ok (exSs G r σ S1) P) : Ok (exSs G (.cons (.exp e) r) σ S) P := by
  refine Ok_cons ?_
  simp only [exS]
  exact Ok_gt (h.mono fun d S1 h2 => ⟨h2⟩)
theorem C_aug {G : Env} {i : Nat} {e : Xp} {r : Sms} {σ : Sg} {S : List D} {P : Fl × Sg → List D → Prop} {a : Int} (hs : σ[i]? = some (.val (.int a))) (h : Ok (evE G e σ S) fun d S1 => ∃ b, d = .int b ∧ Ok (exSs G r (σ.set i (.val (.int (a + b)))) S1) P) : Ok (exSs G (.cons (.aug i e) r) σ S) P := by
  refine Ok_cons ?_
  simp only [exS, hs]
  exact Ok_gt (h.mono fun d S1 ⟨b, e, h2⟩ => by subst e; exact ⟨h2⟩)
theorem C_app {G : Env} {i : Nat} {e : Xp} {r : Sms} {σ : Sg} {S : List D} {xs : List D} {P : Fl × Sg → List D → Prop} (hs : σ[i]? = some (.own (.lst xs))) (hl : xs.length < SZ) (h : Ok (evE G e σ S) fun y S1 => Ok (exSs G r (σ.set i (.own (.lst (xs ++ [y])))) S1) P) : Ok (exSs G (.cons (.app i e) r) σ S) P := Ok_cons (Ok_app hs hl h)
theorem C_frzO {G : Env} {i : Nat} {r : Sms} {σ : Sg} {S : List D} {d : D} {P : Fl × Sg → List D → Prop} (hs : σ[i]? = some (.own d)) (h : Ok (exSs G r (σ.set i (.val d)) S) P) : Ok (exSs G (.cons (.frz i) r) σ S) P := by
  refine Ok_cons ?_
  simp only [exS, hs]
  exact ⟨h⟩
theorem C_frzN {G : Env} {i : Nat} {r : Sms} {σ : Sg} {S : List D} {P : Fl × Sg → List D → Prop} (hs : ∀ d, σ[i]? ≠ some (.own d)) (h : Ok (exSs G r σ S) P) : Ok (exSs G (.cons (.frz i) r) σ S) P := by
  refine Ok_cons ?_
  simp only [exS]
  exact ⟨h⟩
theorem C_whl {G : Env} {c : Xp} {b r : Sms} {σ : Sg} {S : List D} {P : Fl × Sg → List D → Prop} (h : Ok (whlGo (fun σ S => evT G c σ S) (fun σ S => exSs G b σ S) turns σ S) (SeqP G r P)) : Ok (exSs G (.cons (.whl c b) r) σ S) P := by
  refine Ok_cons ?_
  simp only [exS]
  exact h
/-- a while, by a measure -/
theorem Ok_whlGo {c : Sg → List D → R Bool} {f : Sg → List D → R (Fl × Sg)} {P : Fl × Sg → List D → Prop} (I : Nat → Sg → List D → Prop)
    (hs : ∀ m σ S, I m σ S → Ok (c σ S) fun k S1 => if k = true then Ok (f σ S1) (TurnP (fun σ S => ∃ m', m' < m ∧ I m' σ S) P) else P (.nx, σ) S1) :
    ∀ (n m : Nat) (σ : Sg) (S : List D), I m σ S → m < n → Ok (whlGo c f n σ S) P
  | 0, _, _, _, _, h => absurd h (by omega)
  | n + 1, m, σ, S, hi, hm => by
    unfold whlGo
    refine Ok_gt ((hs m σ S hi).mono fun k S1 h => ?_)
    cases k with
    | false => exact ⟨h⟩
    | true =>
      have h : Ok (f σ S1) (TurnP (fun σ S => ∃ m', m' < m ∧ I m' σ S) P) := h
      rw [if_pos rfl]
      simp only [Ok_bnd]
      refine h.mono fun q S2 k => ?_
      obtain ⟨fl, σ2⟩ := q
      have go : (∃ m', m' < m ∧ I m' σ2 S2) → Ok (whlGo c f n σ2 S2) P := fun ⟨m', h1, h2⟩ => Ok_whlGo I hs n m' σ2 S2 h2 (by omega)
      cases fl with
      | nx => exact go k
      | ct => exact go k
      | bk => exact ⟨k⟩
      | rt d => exact ⟨k⟩
      | xc d => exact ⟨k⟩
theorem C_brk {G : Env} {r : Sms} {σ : Sg} {S : List D} {P : Fl × Sg → List D → Prop} (h : P (.bk, σ) S) : Ok (exSs G (.cons .brk r) σ S) P := by
  refine Ok_cons ?_
  simp only [exS]
  exact ⟨h⟩
theorem C_cnt {G : Env} {r : Sms} {σ : Sg} {S : List D} {P : Fl × Sg → List D → Prop} (h : P (.ct, σ) S) : Ok (exSs G (.cons .cnt r) σ S) P := by
  refine Ok_cons ?_
  simp only [exS]
  exact ⟨h⟩
/-- `if c: ..` whose suite ends by itself, then the rest -/
theorem C_if0 {G : Env} {c : Xp} {a r : Sms} {σ : Sg} {S : List D} {P : Fl × Sg → List D → Prop} (h : Ok (evT G c σ S) fun k S1 => if k = true then Ok (exSs G a σ S1) (SeqP G r P) else Ok (exSs G r σ S1) P) : Ok (exSs G (.cons (.ife c a .nil) r) σ S) P := by
  refine C_ife (h.mono fun k S1 h => ?_)
  cases k with
  | true => exact h
  | false =>
    have h : Ok (exSs G r σ S1) P := h
    exact Ok_nil (G := G) (SeqP_i h)
theorem C_ext {G : Env} {i : Nat} {e : Xp} {r : Sms} {σ : Sg} {S : List D} {xs : List D} {P : Fl × Sg → List D → Prop} (hs : σ[i]? = some (.own (.lst xs))) (h : Ok (evE G e σ S) fun y S1 => ∃ ys, y = .lst ys ∧ xs.length + ys.length ≤ SZ ∧ Ok (exSs G r (σ.set i (.own (.lst (xs ++ ys)))) S1) P) : Ok (exSs G (.cons (.ext i e) r) σ S) P := by
  refine Ok_cons ?_
  simp only [exS, hs]
  refine Ok_gt (h.mono fun d S1 ⟨ys, e, hl, h2⟩ => ?_)
  subst e
  have e1 : extD (.lst xs) (.lst ys) = some (.lst (xs ++ ys)) := if_pos hl
  rw [e1]
  exact ⟨h2⟩
theorem C_ins {G : Env} {i : Nat} {k e : Xp} {r : Sms} {σ : Sg} {S : List D} {xs : List D} {P : Fl × Sg → List D → Prop} (hs : σ[i]? = some (.own (.lst xs))) (h : Ok (evE G k σ S) fun x S1 => ∃ j : Int, x = .int j ∧ 0 ≤ j ∧ j < 2 ^ 62 ∧ xs.length < SZ ∧ Ok (evE G e σ S1) fun y S2 => Ok (exSs G r (σ.set i (.own (.lst (xs.take j.toNat ++ y :: xs.drop j.toNat)))) S2) P) : Ok (exSs G (.cons (.ins i k e) r) σ S) P := by
  refine Ok_cons ?_
  simp only [exS, hs]
  refine Ok_gt (h.mono fun d S1 ⟨j, e, h0, h1, hl, h2⟩ => Ok_gt (h2.mono fun y S2 h3 => ?_))
  subst e
  have e1 : insD (.lst xs) (.int j) y = some (.lst (xs.take j.toNat ++ y :: xs.drop j.toNat)) := if_pos ⟨h0, h1, hl⟩
  rw [e1]
  exact ⟨h3⟩
theorem C_putO {G : Env} {i : Nat} {k e : Xp} {r : Sms} {σ : Sg} {S : List D} {d : D} {P : Fl × Sg → List D → Prop} (hs : σ[i]? = some (.own d)) (h : Ok (evE G e σ S) fun y S1 => Ok (evE G k σ S1) fun x S2 => ∃ d', setD d x y = some d' ∧ Ok (exSs G r (σ.set i (.own d')) S2) P) : Ok (exSs G (.cons (.putO i k e) r) σ S) P := by
  refine Ok_cons ?_
  simp only [exS]
  refine Ok_gt (h.mono fun y S1 h2 => ?_)
  rw [hs]
  refine Ok_gt (h2.mono fun x S2 ⟨d', e1, h3⟩ => ?_)
  rw [e1]
  exact ⟨h3⟩
theorem C_appR {G : Env} {a e : Xp} {r : Sms} {σ : Sg} {S : List D} {P : Fl × Sg → List D → Prop} (h : Ok (evE G a σ S) fun x S1 => ∃ n xs0, x = .ref n ∧ S1[n]? = some (.lst xs0) ∧ Ok (evE G e σ S1) fun y S2 => ∃ xs, S2[n]? = some (.lst xs) ∧ xs.length < SZ ∧ immD y = true ∧ Ok (exSs G r σ (S2.set n (.lst (xs ++ [y])))) P) : Ok (exSs G (.cons (.appR a e) r) σ S) P := by
  refine Ok_cons ?_
  simp only [exS]
  refine Ok_gt (h.mono fun x S1 ⟨n, xs0, e, h0, h2⟩ => ?_)
  subst e
  simp only [h0]
  refine Ok_gt (h2.mono fun y S2 ⟨xs, h3, h4, h5, h6⟩ => ?_)
  simp only [h3]
  rw [if_pos ⟨h4, h5⟩]
  exact ⟨h6⟩
theorem C_popO {G : Env} {i j : Nat} {r : Sms} {σ : Sg} {S : List D} {xs : List D} {y : D} {P : Fl × Sg → List D → Prop} (hs : σ[i]? = some (.own (.lst xs))) (hij : j ≠ i) (hy : xs.getLast? = some y) (h : Ok (exSs G r ((σ.set i (.own (.lst xs.dropLast))).set j (.val y)) S) P) : Ok (exSs G (.cons (.popO j i) r) σ S) P := by
  refine Ok_cons ?_
  have e1 : popD (.lst xs) = some (y, .lst xs.dropLast) := by
    show (xs.getLast?).map _ = _
    rw [hy]; rfl
  simp only [exS, hs, e1, if_neg hij]
  exact ⟨h⟩
theorem C_asb {G : Env} {i : Nat} {e : Xp} {r : Sms} {σ : Sg} {S : List D} {P : Fl × Sg → List D → Prop} {a : Int} (hs : σ[i]? = some (.val (.int a))) (h : Ok (evE G e σ S) fun d S1 => ∃ b, d = .int b ∧ Ok (exSs G r (σ.set i (.val (.int (a - b)))) S1) P) : Ok (exSs G (.cons (.asb i e) r) σ S) P := by
  refine Ok_cons ?_
  simp only [exS, hs]
  exact Ok_gt (h.mono fun d S1 ⟨b, e, h2⟩ => by subst e; exact ⟨h2⟩)
theorem C_parO {G : Env} {i j : Nat} {a b : Xp} {r : Sms} {σ : Sg} {S : List D} {P : Fl × Sg → List D → Prop} (h : Ok (evE G a σ S) fun x S1 => Ok (evE G b σ S1) fun y S2 => isOb y = true ∧ Ok (exSs G r ((σ.set i (.val x)).set j (.own y)) S2) P) : Ok (exSs G (.cons (.parO i j a b) r) σ S) P := by
  refine Ok_cons ?_
  simp only [exS]
  refine Ok_gt (h.mono fun x S1 h2 => Ok_gt (h2.mono fun y S2 ⟨h3, h4⟩ => ?_))
  rw [if_pos h3]
  exact ⟨h4⟩
theorem C_parP {G : Env} {i j : Nat} {a b : Xp} {r : Sms} {σ : Sg} {S : List D} {P : Fl × Sg → List D → Prop} (hij : i ≠ j) (h : Ok (evE G a σ S) fun x S1 => Ok (evE G b σ S1) fun y S2 => isOb x = true ∧ Ok (exSs G r ((σ.set i (.own x)).set j (.val y)) S2) P) : Ok (exSs G (.cons (.parP i j a b) r) σ S) P := by
  refine Ok_cons ?_
  simp only [exS]
  refine Ok_gt (h.mono fun x S1 h2 => Ok_gt (h2.mono fun y S2 ⟨h3, h4⟩ => ?_))
  rw [if_pos ⟨h3, hij⟩]
  exact ⟨h4⟩
theorem C_pas {G : Env} {r : Sms} {σ : Sg} {S : List D} {P : Fl × Sg → List D → Prop} (h : Ok (exSs G r σ S) P) : Ok (exSs G (.cons .pas r) σ S) P := by
  refine Ok_cons ?_
  simp only [exS]
  exact ⟨h⟩
theorem C_retN {G : Env} {r : Sms} {σ : Sg} {S : List D} {P : Fl × Sg → List D → Prop} (h : P (.rt .non, σ) S) : Ok (exSs G (.cons .retN r) σ S) P := by
  refine Ok_cons ?_
  simp only [exS]
  exact ⟨h⟩
/-! ### data without shared objects -/
mutual
theorem dp_ok {S : List D} : ∀ (k : Nat) (d : D), dataOk d = true → dpD S k d = d
  | 0, _, _ => rfl
  | k + 1, .lst xs, h => by show D.lst (xs.map (dpD S k)) = _; rw [dps_ok k xs h]
  | k + 1, .tup xs, h => by show D.tup (xs.map (dpD S k)) = _; rw [dps_ok k xs h]
  | k + 1, .dct _ _, h => by cases h
  | _ + 1, .non, _ => rfl
  | _ + 1, .bl _, _ => rfl
  | _ + 1, .int _, _ => rfl
  | _ + 1, .str _, _ => rfl
  | _ + 1, .exc _ _, _ => rfl
  | _ + 1, .fn _, _ => rfl
  | _ + 1, .scr _, _ => rfl
  | _ + 1, .ref _, h => by cases h
theorem dps_ok {S : List D} : ∀ (k : Nat) (xs : List D), datasOk xs = true → xs.map (dpD S k) = xs
  | _, [], _ => rfl
  | k, x :: r, h => by
    have h2 : dataOk x = true ∧ datasOk r = true := by simpa [datasOk] using h
    show dpD S k x :: r.map (dpD S k) = _
    rw [dp_ok k x h2.1, dps_ok k r h2.2]
end
theorem deep_ok {S : List D} {d : D} (h : dataOk d = true) : deepD S d = d := dp_ok 8 d h
theorem deep_ref {S : List D} {n : Nat} {d : D} (h : S[n]? = some d) (hd : dataOk d = true) : ∀ k, dpD S (k + 1) (.ref n) = d := fun k => by
  show dpD S k (S.getD n .non) = d
  rw [List.getD_eq_getElem?_getD, h]
  exact dp_ok k d hd
theorem bi_sorted (xs : List D) : biD .sorted [.lst xs] = (match intsOf xs with
    | some l => some (.lst ((sortI l).map .int))
    | none => match strsOf xs with
      | some l => if l.length < 64 then some (.lst ((sortS l).map .str)) else none
      | none => match prsOf xs with
        | some l => some (.lst ((sortP l).map fun p => .tup [.int p.1, .int p.2]))
        | none => if datasOk xs = true ∧ srtOk xs = true ∧ deps xs ≤ 60 ∧ xs.length ≤ SZ then some (.lst (sortD xs)) else none) := rfl
theorem sortD_mem {xs : List D} {x : D} : x ∈ sortD xs ↔ x ∈ xs := List.mem_mergeSort
theorem sortD_len (xs : List D) : (sortD xs).length = xs.length := List.length_mergeSort xs
theorem bi_min3 (i j k : Int) : biD .min [.int i, .int j, .int k] = some (.int (min (min i j) k)) := rfl
theorem bi_min2 (i j : Int) : biD .min [.int i, .int j] = some (.int (min i j)) := by
  show some (D.int (if j < i then j else i)) = _
  congr 2
  rw [Int.min_def]
  split <;> split <;> omega
theorem bi_minL {i : Int} {l : List Int} : biD .min [.lst ((i :: l).map .int)] = some (.int (l.foldl min i)) := by
  show (match intsOf ((i :: l).map D.int) with | some (i :: l) => some (D.int (l.foldl min i)) | _ => none) = _
  rw [intsOf_map]
theorem range3 {a b : Int} (h1 : -(2 ^ 62) ≤ a) (h2 : a < 2 ^ 62) (h3 : -(2 ^ 62) ≤ b) (h4 : b < 2 ^ 62) (h5 : a - b ≤ 16777216) : rangeD [.int a, .int b, .int (-1)] = some ((List.range (a - b).toNat).map fun (k : Nat) => .int (a - (k : Int))) := by
  unfold rangeD
  exact if_pos ⟨rfl, h1, h2, h3, h4, h5⟩
end PV

/-! ## PV: the statements' equations -/
namespace PV
theorem xS_asg (G : Env) (t e : _) (σ : Sg) (S : List D) : exS G (.asg t e) σ S = ((evE G e σ S).gt σ fun x S1 => match setT t x σ with | some σ1 => .ok (.nx, σ1) S1 | none => .stuck) := by first | exact id rfl | simp only [exS]
theorem xS_asgO (G : Env) (i e : _) (σ : Sg) (S : List D) : exS G (.asgO i e) σ S = ((evE G e σ S).gt σ fun x S1 => if isOb x = true then .ok (.nx, σ.set i (.own x)) S1 else .stuck) := by first | exact id rfl | simp only [exS]
theorem xS_par (G : Env) (ts es : _) (σ : Sg) (S : List D) : exS G (.par ts es) σ S = ((evEs G es σ S).gt σ fun xs S1 => match setPar ts xs σ with | some σ1 => .ok (.nx, σ1) S1 | none => .stuck) := by first | exact id rfl | simp only [exS]
theorem xS_parO (G : Env) (i j a b : _) (σ : Sg) (S : List D) : exS G (.parO i j a b) σ S = ((evE G a σ S).gt σ fun x S1 => (evE G b σ S1).gt σ fun y S2 => if isOb y = true then .ok (.nx, (σ.set i (.val x)).set j (.own y)) S2 else .stuck) := by first | exact id rfl | simp only [exS]
theorem xS_parP (G : Env) (i j a b : _) (σ : Sg) (S : List D) : exS G (.parP i j a b) σ S = ((evE G a σ S).gt σ fun x S1 => (evE G b σ S1).gt σ fun y S2 => if isOb x = true ∧ i ≠ j then .ok (.nx, (σ.set i (.own x)).set j (.val y)) S2 else .stuck) := by first | exact id rfl | simp only [exS]
theorem xS_aug (G : Env) (i e : _) (σ : Sg) (S : List D) : exS G (.aug i e) σ S = (match σ[i]? with
    | some (.val (.int a)) => (evE G e σ S).gt σ fun y S1 => match y with
      | .int b => .ok (.nx, σ.set i (.val (.int (a + b)))) S1
      | _ => .stuck
    | _ => .stuck) := by first | exact id rfl | simp only [exS]
theorem xS_exp (G : Env) (e : _) (σ : Sg) (S : List D) : exS G (.exp e) σ S = ((evE G e σ S).gt σ fun _ S1 => .ok (.nx, σ) S1) := by first | exact id rfl | simp only [exS]
theorem xS_app (G : Env) (i e : _) (σ : Sg) (S : List D) : exS G (.app i e) σ S = (match σ[i]? with
    | some (.own (.lst xs)) => (evE G e σ S).gt σ fun y S1 => if xs.length < SZ then .ok (.nx, σ.set i (.own (.lst (xs ++ [y])))) S1 else .stuck
    | _ => .stuck) := by first | exact id rfl | simp only [exS]
theorem xS_ext (G : Env) (i e : _) (σ : Sg) (S : List D) : exS G (.ext i e) σ S = (match σ[i]? with
    | some (.own (.lst xs)) => (evE G e σ S).gt σ fun y S1 => match extD (.lst xs) y with | some d' => .ok (.nx, σ.set i (.own d')) S1 | none => .stuck
    | _ => .stuck) := by first | exact id rfl | simp only [exS]
theorem xS_ins (G : Env) (i k e : _) (σ : Sg) (S : List D) : exS G (.ins i k e) σ S = (match σ[i]? with
    | some (.own (.lst xs)) => (evE G k σ S).gt σ fun x S1 => (evE G e σ S1).gt σ fun y S2 => match insD (.lst xs) x y with | some d' => .ok (.nx, σ.set i (.own d')) S2 | none => .stuck
    | _ => .stuck) := by first | exact id rfl | simp only [exS]
theorem xS_putO (G : Env) (i k e : _) (σ : Sg) (S : List D) : exS G (.putO i k e) σ S = ((evE G e σ S).gt σ fun y S1 => match σ[i]? with
    | some (.own d) => (evE G k σ S1).gt σ fun x S2 => (match setD d x y with | some d' => .ok (.nx, σ.set i (.own d')) S2 | none => .stuck)
    | _ => .stuck) := by first | exact id rfl | simp only [exS]
theorem xS_appR (G : Env) (a e : _) (σ : Sg) (S : List D) : exS G (.appR a e) σ S = ((evE G a σ S).gt σ fun x S1 => match x with
    | .ref n => (match S1[n]? with
      | some (.lst _) => (evE G e σ S1).gt σ fun y S2 => (match S2[n]? with
        | some (.lst xs) => if xs.length < SZ ∧ immD y = true then .ok (.nx, σ) (S2.set n (.lst (xs ++ [y]))) else .stuck
        | _ => .stuck)
      | _ => .stuck)
    | _ => .stuck) := by first | exact id rfl | simp only [exS]
theorem xS_popO (G : Env) (j i : _) (σ : Sg) (S : List D) : exS G (.popO j i) σ S = (match σ[i]? with
    | some (.own d) => (match popD d with | some (y, d') => if j = i then .stuck else .ok (.nx, (σ.set i (.own d')).set j (.val y)) S | none => .stuck)
    | _ => .stuck) := by first | exact id rfl | simp only [exS]
theorem xS_asb (G : Env) (i e : _) (σ : Sg) (S : List D) : exS G (.asb i e) σ S = (match σ[i]? with
    | some (.val (.int a)) => (evE G e σ S).gt σ fun y S1 => match y with
      | .int b => .ok (.nx, σ.set i (.val (.int (a - b)))) S1
      | _ => .stuck
    | _ => .stuck) := by first | exact id rfl | simp only [exS]
theorem xS_putR (G : Env) (a k e : _) (σ : Sg) (S : List D) : exS G (.putR a k e) σ S = ((evE G e σ S).gt σ fun y S1 => (evE G a σ S1).gt σ fun x S2 => (evE G k σ S2).gt σ fun i S3 => match x with
    | .ref n => (match (S3[n]?).bind fun d => setD d i y with
      | some d' => if immD y = true then .ok (.nx, σ) (S3.set n d') else .stuck
      | none => .stuck)
    | _ => .stuck) := by first | exact id rfl | simp only [exS]
theorem xS_newR (G : Env) (i e : _) (σ : Sg) (S : List D) : exS G (.newR i e) σ S = ((evE G e σ S).gt σ fun x S1 => if obI x = true then .ok (.nx, σ.set i (.val (.ref S1.length))) (S1 ++ [x]) else .stuck) := by first | exact id rfl | simp only [exS]
theorem xS_frz (G : Env) (i : _) (σ : Sg) (S : List D) : exS G (.frz i) σ S = (match σ[i]? with | some (.own d) => .ok (.nx, σ.set i (.val d)) S | _ => .ok (.nx, σ) S) := by first | exact id rfl | simp only [exS]
theorem xS_ife (G : Env) (c a b : _) (σ : Sg) (S : List D) : exS G (.ife c a b) σ S = ((evT G c σ S).gt σ fun k S1 => if k = true then exSs G a σ S1 else exSs G b σ S1) := by first | exact id rfl | simp only [exS]
theorem xS_for_ (G : Env) (t it b : _) (σ : Sg) (S : List D) : exS G (.for_ t it b) σ S = ((evI G it σ S).gt σ fun xs S1 => forGo t (fun σ S => exSs G b σ S) xs σ S1) := by first | exact id rfl | simp only [exS]
theorem xS_whl (G : Env) (c b : _) (σ : Sg) (S : List D) : exS G (.whl c b) σ S = (whlGo (fun σ S => evT G c σ S) (fun σ S => exSs G b σ S) turns σ S) := by first | exact id rfl | simp only [exS]
theorem xS_ret (G : Env) (e : _) (σ : Sg) (S : List D) : exS G (.ret e) σ S = ((evE G e σ S).gt σ fun x S1 => .ok (.rt x, σ) S1) := by first | exact id rfl | simp only [exS]
theorem xS_retR (G : Env) (e : _) (σ : Sg) (S : List D) : exS G (.retR e) σ S = ((evE G e σ S).gt σ fun x S1 => if obI x = true then .ok (.rt (.ref S1.length), σ) (S1 ++ [x]) else .stuck) := by first | exact id rfl | simp only [exS]
theorem xS_retN (G : Env) (σ : Sg) (S : List D) : exS G (.retN) σ S = (.ok (.rt .non, σ) S) := by first | exact id rfl | simp only [exS]
theorem xS_brk (G : Env) (σ : Sg) (S : List D) : exS G (.brk) σ S = (.ok (.bk, σ) S) := by first | exact id rfl | simp only [exS]
theorem xS_cnt (G : Env) (σ : Sg) (S : List D) : exS G (.cnt) σ S = (.ok (.ct, σ) S) := by first | exact id rfl | simp only [exS]
theorem xS_pas (G : Env) (σ : Sg) (S : List D) : exS G (.pas) σ S = (.ok (.nx, σ) S) := by first | exact id rfl | simp only [exS]
theorem xS_never (G : Env) (σ : Sg) (S : List D) : exS G (.never) σ S = (.stuck) := by first | exact id rfl | simp only [exS]
theorem xS_rse (G : Env) (c e : _) (σ : Sg) (S : List D) : exS G (.rse c e) σ S = ((evE G e σ S).gt σ fun x S1 => .ok (.xc (.exc c [x]), σ) S1) := by first | exact id rfl | simp only [exS]
theorem xS_tryA (G : Env) (b c i j : _) (σ : Sg) (S : List D) : exS G (.tryA b c i j) σ S = (match exSs G b σ S with
    | .ok (.xc (.exc d fs), σ1) S1 => if c = 0 ∨ c = d then (if i = j then .stuck else .ok (.nx, (σ1.set j .un).set i (.val (.exc d fs))) S1) else .ok (.xc (.exc d fs), σ1) S1
    | .ok (.xc _, _) _ => .stuck
    | r => r) := by first | exact id rfl | simp only [exS]
theorem xS_appP (G : Env) (i j e : _) (σ : Sg) (S : List D) : exS G (.appP i j e) σ S = (match σ[i]?, σ[j]? with
    | some (.own (.lst xs)), some (.own (.lst ys)) => (evE G e σ S).gt σ fun k S1 => match k with
      | .int k => if xs.length < SZ ∧ i ≠ j then (match popKD ys k with | some (y, ys') => .ok (.nx, (σ.set j (.own (.lst ys'))).set i (.own (.lst (xs ++ [y])))) S1 | none => .stuck) else .stuck
      | _ => .stuck
    | _, _ => .stuck) := by first | exact id rfl | simp only [exS]
theorem xS_parQ (G : Env) (i j a b : _) (σ : Sg) (S : List D) : exS G (.parQ i j a b) σ S = ((evE G a σ S).gt σ fun x S1 => (evE G b σ S1).gt σ fun y S2 => if isOb x = true ∧ isOb y = true ∧ i ≠ j then .ok (.nx, (σ.set i (.own x)).set j (.own y)) S2 else .stuck) := by first | exact id rfl | simp only [exS]
theorem xS_popK (G : Env) (j i e : _) (σ : Sg) (S : List D) : exS G (.popK j i e) σ S = (match σ[i]? with
    | some (.own (.lst ys)) => (evE G e σ S).gt σ fun k S1 => match k with
      | .int k => if j ≠ i then (match popKD ys k with | some (y, ys') => .ok (.nx, (σ.set i (.own (.lst ys'))).set j (.val y)) S1 | none => .stuck) else .stuck
      | _ => .stuck
    | _ => .stuck) := by first | exact id rfl | simp only [exS]
theorem xs_nil (G : Env) (σ : Sg) (S : List D) : exSs G (.nil) σ S = (.ok (.nx, σ) S) := by first | exact id rfl | simp only [exSs]
theorem xs_cons (G : Env) (s r : _) (σ : Sg) (S : List D) : exSs G (.cons s r) σ S = ((exS G s σ S).bnd fun q S1 => match q.1 with
    | .nx => exSs G r q.2 S1
    | .bk => .ok (.bk, q.2) S1
    | .ct => .ok (.ct, q.2) S1
    | .rt d => .ok (.rt d, q.2) S1
    | .xc d => .ok (.xc d, q.2) S1) := by first | exact id rfl | simp only [exSs]
theorem run_def (G : Env) (n : Nat) (b : Sms) (ds S : List D) : runF G n b ds S = endR (exSs G b (ds.map .val ++ List.replicate (n - ds.length) .un) S) := id rfl
theorem endR_nx (σ : Sg) (S : List D) : endR (.ok (.nx, σ) S) = .ok .non S := id rfl
theorem endR_rt (d : D) (σ : Sg) (S : List D) : endR (.ok (.rt d, σ) S) = .ok d S := id rfl
theorem endR_xc (e : D) (σ : Sg) (S : List D) : endR (.ok (.xc e, σ) S) = .exc e S := id rfl
/-- a walk that an exception ends -/
theorem forGo_xc {i : Nat} {f : Sg → List D → R (Fl × Sg)} {S : List D} {e : D} {d : D} {post : List D} : ∀ (pre : List D) (σ : Sg), i < σ.length → (∀ g ∈ pre, ∀ σ : Sg, i < σ.length → f (σ.set i (.val g)) S = .ok (.nx, σ.set i (.val g)) S) →
    (∀ σ : Sg, i < σ.length → f (σ.set i (.val d)) S = .ok (.xc e, σ.set i (.val d)) S) → ∃ σ', forGo (.nm i) f (pre ++ d :: post) σ S = .ok (.xc e, σ') S
  | [], σ, hl, _, hd => by
    refine ⟨σ.set i (.val d), ?_⟩
    rw [List.nil_append]
    unfold forGo
    simp only [setT, hd σ hl, R.bnd_ok]
  | x :: pre, σ, hl, hp, hd => by
    obtain ⟨σ', ih⟩ := forGo_xc (post := post) pre (σ.set i (.val x)) (by simpa using hl) (fun g hg => hp g (List.mem_cons_of_mem _ hg)) hd
    refine ⟨σ', ?_⟩
    rw [List.cons_append]
    unfold forGo
    simp only [setT, hp x List.mem_cons_self σ hl, R.bnd_ok]
    exact ih
end PV

namespace PV
/-- what comes of it at the empty store comes of it at each -/
def Pu {α : Type} (m : List D → R α) : Prop := match m [] with
  | .ok a S0 => S0 = [] ∧ ∀ S, m S = .ok a S
  | .exc e S0 => S0 = [] ∧ ∀ S, m S = .exc e S
  | .stuck => True
theorem Pu.okP {α : Type} {m : List D → R α} (h : Pu m) {a : α} {S0 : List D} (e : m [] = .ok a S0) : S0 = [] ∧ ∀ S, m S = .ok a S := by
  unfold Pu at h
  rw [e] at h
  exact h
theorem Pu.excP {α : Type} {m : List D → R α} (h : Pu m) {a : D} {S0 : List D} (e : m [] = .exc a S0) : S0 = [] ∧ ∀ S, m S = .exc a S := by
  unfold Pu at h
  rw [e] at h
  exact h
theorem Pu.i1 {α : Type} {m : List D → R α} {a : α} (h : ∀ S, m S = .ok a S) : Pu m := by
  unfold Pu
  rw [h []]
  exact ⟨rfl, h⟩
theorem Pu.i2 {α : Type} {m : List D → R α} {a : D} (h : ∀ S, m S = .exc a S) : Pu m := by
  unfold Pu
  rw [h []]
  exact ⟨rfl, h⟩
theorem Pu.i3 {α : Type} {m : List D → R α} (h : m [] = .stuck) : Pu m := by
  unfold Pu
  rw [h]
  trivial
theorem Pu.ok {α : Type} (a : α) : Pu (fun S => R.ok a S) := .i1 fun _ => rfl
theorem Pu.st {α : Type} : Pu (fun _ => (R.stuck : R α)) := .i3 rfl
theorem Pu.xc {α : Type} (a : D) : Pu (fun S => (R.exc a S : R α)) := .i2 fun _ => rfl
theorem Pu.lif {α : Type} (o : Option α) : Pu (fun S => R.lif o S) := by
  cases o with
  | none => exact .st
  | some a => exact .ok a
theorem Pu.lifS {α : Type} {f : List D → Option α} (h : ∀ a, f [] = some a → ∀ S, f S = some a) : Pu (fun S => R.lif (f S) S) := by
  cases e : f [] with
  | none => exact .i3 (by rw [e]; rfl)
  | some a => exact .i1 (a := a) fun S => by rw [h a e S]; rfl
theorem Pu.bnd {α β : Type} {m : List D → R α} {f : α → List D → R β} (h : Pu m) (k : ∀ a, Pu (f a)) : Pu (fun S => (m S).bnd f) := by
  cases e : m [] with
  | ok a S0 =>
    obtain ⟨rfl, h2⟩ := h.okP e
    have k := k a
    have e2 : (fun S => (m S).bnd f) = f a := funext fun S => by rw [h2 S]; rfl
    rw [e2]
    exact k
  | exc a S0 =>
    obtain ⟨rfl, h2⟩ := h.excP e
    exact .i2 (a := a) fun S => by rw [h2 S]; rfl
  | stuck => exact .i3 (by rw [e]; rfl)
theorem Pu.gt {α : Type} {m : List D → R α} {σ : Sg} {f : α → List D → R (Fl × Sg)} (h : Pu m) (k : ∀ a, Pu (f a)) : Pu (fun S => (m S).gt σ f) := by
  cases e : m [] with
  | ok a S0 =>
    obtain ⟨rfl, h2⟩ := h.okP e
    have k := k a
    have e2 : (fun S => (m S).gt σ f) = f a := funext fun S => by rw [h2 S]; rfl
    rw [e2]
    exact k
  | exc a S0 =>
    obtain ⟨rfl, h2⟩ := h.excP e
    exact .i1 (a := (.xc a, σ)) fun S => by rw [h2 S]; rfl
  | stuck => exact .i3 (by rw [e]; rfl)
theorem Pu.nox {α : Type} {m : List D → R α} (h : Pu m) : Pu (fun S => R.nox (m S)) := by
  cases e : m [] with
  | ok a S0 =>
    obtain ⟨rfl, h2⟩ := h.okP e
    exact .i1 (a := a) fun S => by rw [h2 S]; rfl
  | exc a S0 => exact .i3 (by rw [e]; rfl)
  | stuck => exact .i3 (by rw [e]; rfl)
theorem Pu.ite {α : Type} (c : Prop) [Decidable c] {f g : List D → R α} (h : Pu f) (k : Pu g) : Pu (fun S => if c then f S else g S) := by
  by_cases e : c
  · simp only [if_pos e]; exact h
  · simp only [if_neg e]; exact k
theorem pu_lcGo {f : D → List D → R (List D)} (h : ∀ x, Pu (f x)) : ∀ xs, Pu (lcGo f xs)
  | [] => .ok []
  | x :: xs => (h x).bnd fun ys => (pu_lcGo h xs).bnd fun zs => .ok (ys ++ zs)
theorem pu_fl {β : Type} {q : Fl × Sg} {a b c : List D → R β} {d : D → List D → R β} {e : D → List D → R β} (ha : Pu a) (hb : Pu b) (hc : Pu c) (hd : ∀ x, Pu (d x)) (he : ∀ x, Pu (e x)) :
    Pu (fun S1 => match q.1 with
      | .nx => a S1
      | .ct => b S1
      | .bk => c S1
      | .rt x => d x S1
      | .xc x => e x S1) := by
  obtain ⟨fl, σ⟩ := q
  cases fl
  · exact ha
  · exact hc
  · exact hb
  · exact hd _
  · exact he _
theorem pu_forGo {t : Tg} {f : Sg → List D → R (Fl × Sg)} (h : ∀ σ, Pu (f σ)) : ∀ xs σ, Pu (forGo t f xs σ)
  | [], σ => Pu.ok ((Fl.nx, σ) : Fl × Sg)
  | x :: xs, σ => by
    show Pu (fun S => forGo t f (x :: xs) σ S)
    simp only [forGo]
    cases setT t x σ with
    | none => exact .st
    | some σ1 =>
      refine (h σ1).bnd fun r => pu_fl (pu_forGo h xs r.2) (pu_forGo h xs r.2) (.ok _) (fun d => .ok _) fun d => .ok _
theorem pu_whlGo {c : Sg → List D → R Bool} {f : Sg → List D → R (Fl × Sg)} (hc : ∀ σ, Pu (c σ)) (h : ∀ σ, Pu (f σ)) : ∀ n σ, Pu (whlGo c f n σ)
  | 0, σ => .st
  | n + 1, σ => by
    show Pu (fun S => whlGo c f (n + 1) σ S)
    simp only [whlGo]
    refine (hc σ).gt fun k => .ite _ ?_ (.ok _)
    exact (h σ).bnd fun r => pu_fl (pu_whlGo hc h n r.2) (pu_whlGo hc h n r.2) (.ok _) (fun d => .ok _) fun d => .ok _
theorem pu_lcF {G : Env} {e : Xp} {own : List Nat} {t : Tg} {c : Xpo} {σ : Sg} (hc : ∀ σ, Pu (evC G c σ)) (he : ∀ σ, Pu (evE G e σ)) (x : D) : Pu (lcF G e own t c σ x) := by
  unfold lcF
  cases setT t x (wipeG σ own) with
  | none => exact .st
  | some σ1 => exact (hc σ1).bnd fun k => .ite _ ((Pu.nox (he σ1)).bnd fun y => .ok _) (.ok _)
theorem sub_emp {x y : D} {a : D} (h : subD x y [] = some a) (S : List D) : subD x y S = some a := by
  unfold subD at h ⊢
  split at h <;> first | exact h | (simp at h) 
theorem rd_emp {x a : D} (h : rdD [] x = some a) (S : List D) : rdD S x = some a := by
  unfold rdD at h ⊢
  split at h
  · simp at h
  · exact h

mutual
def uE : Xp → Bool
  | .var _ => true
  | .bvar _ => true
  | .lit _ => true
  | .gv _ => true
  | .bin _ x1 x2 => uE x1 && uE x2
  | .neg x0 => uE x0
  | .nt x0 => uE x0
  | .and_ x0 x1 => uE x0 && uE x1
  | .or_ x0 x1 => uE x0 && uE x1
  | .one x0 => uE x0
  | .ife x0 x1 x2 => uE x0 && uE x1 && uE x2
  | .cmp _ x1 x2 => uE x1 && uE x2
  | .chn _ _ x2 x3 x4 => uE x2 && uE x3 && uE x4
  | .tup x0 => uL x0
  | .lst x0 => uL x0
  | .sub x0 x1 => uE x0 && uE x1
  | .sli x0 x1 x2 => uE x0 && uO x1 && uO x2
  | .rev x0 => uE x0
  | .dct0 => true
  | .dlit _ _ => true
  | .call _ x1 => uL x1
  | .callk _ x1 x2 _ => uL x1 && uL x2
  | .bi _ x1 => uL x1
  | .isi x0 _ => uE x0
  | .mt _ x1 x2 => uE x1 && uL x2
  | .lc x0 _ _ x3 x4 => uE x0 && uI x3 && uO x4
  | .lstI x0 => uE x0
  | .tupI x0 => uE x0
  | .pub _ => false
  | .rd x0 => uE x0
  | .dsp x0 => uL x0
  | .dspT x0 x1 => uE x0 && uE x1
  | .dctT => true
  | .cmpX _ _ _ => false
  | .rpr _ => false
  | .nev => true
  | .fnv _ => true
  | .cfv x0 _ x2 => uE x0 && uL x2
  | .isx x0 _ => uE x0
  | .isv x0 => uE x0
  | .xval x0 => uE x0
  | .isi2 x0 _ _ => uE x0
  | .lcR _ _ _ _ _ => false
  | .lcZ _ _ _ _ _ => false
  | .lrg x0 => uL x0
  | .dgt x0 x1 x2 => uE x0 && uE x1 && uE x2
  | .lcD x0 _ _ _ x4 => uE x0 && uO x4
def uO : Xpo → Bool
  | .none => true
  | .some e => uE e
def uL : Xps → Bool
  | .nil => true
  | .cons e r => uE e && uL r
def uI : Iq → Bool
  | .seq e => uE e
  | .rng es => uL es
  | .zip es => uL es
  | .enm e => uE e
  | .rvs e => uE e
end
/-- the callees so -/
def PuG (G : Env) : Prop := ∀ k ds, Pu (G.fn k ds)
section
variable {G : Env} (hG : PuG G)
include hG
mutual
theorem pE : ∀ (e : Xp), uE e = true → ∀ σ, Pu (evE G e σ)
  | .var x0, h, σ => by show Pu (fun S => evE G (.var x0) σ S); simp only [eE_var]; generalize σ[x0]? = z; rcases z with _ | (_ | d | d) <;> first | exact .st | exact .ok _
  | .bvar x0, h, σ => by show Pu (fun S => evE G (.bvar x0) σ S); simp only [eE_bvar]; exact .lif _
  | .lit x0, h, σ => by show Pu (fun S => evE G (.lit x0) σ S); simp only [eE_lit]; exact .ok _
  | .gv x0, h, σ => by show Pu (fun S => evE G (.gv x0) σ S); simp only [eE_gv]; exact .lif _
  | .bin x0 x1 x2, h, σ => by have h := h; simp only [uE, Bool.and_eq_true] at h; obtain ⟨h0, h1⟩ := h; show Pu (fun S => evE G (.bin x0 x1 x2) σ S); simp only [eE_bin]; exact (pE x1 (by simp [*]) σ).bnd fun x => (pE x2 (by simp [*]) σ).bnd fun y => .lif _
  | .neg x0, h, σ => by have h := h; simp only [uE, Bool.and_eq_true] at h; show Pu (fun S => evE G (.neg x0) σ S); simp only [eE_neg]; exact (pE x0 (by simp [*]) σ).bnd fun x => by cases x <;> first | exact .st | exact .ok _
  | .nt x0, h, σ => by have h := h; simp only [uE, Bool.and_eq_true] at h; show Pu (fun S => evE G (.nt x0) σ S); simp only [eE_nt]; exact (pE x0 (by simp [*]) σ).bnd fun x => by cases x <;> first | exact .st | exact .ok _
  | .and_ x0 x1, h, σ => by have h := h; simp only [uE, Bool.and_eq_true] at h; obtain ⟨h0, h1⟩ := h; show Pu (fun S => evE G (.and_ x0 x1) σ S); simp only [eE_and_]; exact (pE x0 (by simp [*]) σ).bnd fun x => by rcases x with _ | b | _ | _ | _ | _ | _ | _ | _ | _ | _ <;> first | exact .st | (cases b <;> first | exact .ok _ | exact (pE x1 (by simp [*]) σ))
  | .or_ x0 x1, h, σ => by have h := h; simp only [uE, Bool.and_eq_true] at h; obtain ⟨h0, h1⟩ := h; show Pu (fun S => evE G (.or_ x0 x1) σ S); simp only [eE_or_]; exact (pE x0 (by simp [*]) σ).bnd fun x => by rcases x with _ | b | _ | _ | _ | _ | _ | _ | _ | _ | _ <;> first | exact .st | (cases b <;> first | exact .ok _ | exact (pE x1 (by simp [*]) σ))
  | .one x0, h, σ => by have h := h; simp only [uE, Bool.and_eq_true] at h; show Pu (fun S => evE G (.one x0) σ S); simp only [eE_one]; exact (pE x0 (by simp [*]) σ)
  | .ife x0 x1 x2, h, σ => by have h := h; simp only [uE, Bool.and_eq_true] at h; obtain ⟨⟨h0, h1⟩, h2⟩ := h; show Pu (fun S => evE G (.ife x0 x1 x2) σ S); simp only [eE_ife]; exact (pT x0 (by simp [*]) σ).bnd fun k => .ite _ (pE x1 (by simp [*]) σ) (pE x2 (by simp [*]) σ)
  | .cmp x0 x1 x2, h, σ => by have h := h; simp only [uE, Bool.and_eq_true] at h; obtain ⟨h0, h1⟩ := h; show Pu (fun S => evE G (.cmp x0 x1 x2) σ S); simp only [eE_cmp]; exact (pE x1 (by simp [*]) σ).bnd fun x => (pE x2 (by simp [*]) σ).bnd fun y => .lif _
  | .chn x0 x1 x2 x3 x4, h, σ => by have h := h; simp only [uE, Bool.and_eq_true] at h; obtain ⟨⟨h0, h1⟩, h2⟩ := h; show Pu (fun S => evE G (.chn x0 x1 x2 x3 x4) σ S); simp only [eE_chn]; exact (pE x2 (by simp [*]) σ).bnd fun x => (pE x3 (by simp [*]) σ).bnd fun y => (Pu.lif _).bnd fun k => .ite _ ((pE x4 (by simp [*]) σ).bnd fun z => .lif _) (.ok _)
  | .tup x0, h, σ => by have h := h; simp only [uE, Bool.and_eq_true] at h; show Pu (fun S => evE G (.tup x0) σ S); simp only [eE_tup]; exact (pL x0 (by simp [*]) σ).bnd fun xs => .ite _ (.ok _) .st
  | .lst x0, h, σ => by have h := h; simp only [uE, Bool.and_eq_true] at h; show Pu (fun S => evE G (.lst x0) σ S); simp only [eE_lst]; exact (pL x0 (by simp [*]) σ).bnd fun xs => .ite _ (.ok _) .st
  | .sub x0 x1, h, σ => by have h := h; simp only [uE, Bool.and_eq_true] at h; obtain ⟨h0, h1⟩ := h; show Pu (fun S => evE G (.sub x0 x1) σ S); simp only [eE_sub]; exact (pE x0 (by simp [*]) σ).bnd fun x => (pE x1 (by simp [*]) σ).bnd fun y => .lifS fun a h S => sub_emp h S
  | .sli x0 x1 x2, h, σ => by have h := h; simp only [uE, Bool.and_eq_true] at h; obtain ⟨⟨h0, h1⟩, h2⟩ := h; show Pu (fun S => evE G (.sli x0 x1 x2) σ S); simp only [eE_sli]; exact (pE x0 (by simp [*]) σ).bnd fun x => (pO x1 (by simp [*]) σ).bnd fun l => (pO x2 (by simp [*]) σ).bnd fun h => .lif _
  | .rev x0, h, σ => by have h := h; simp only [uE, Bool.and_eq_true] at h; show Pu (fun S => evE G (.rev x0) σ S); simp only [eE_rev]; exact (pE x0 (by simp [*]) σ).bnd fun x => .lif _
  | .dct0, h, σ => by show Pu (fun S => evE G (.dct0) σ S); simp only [eE_dct0]; exact .ok _
  | .dlit x0 x1, h, σ => by show Pu (fun S => evE G (.dlit x0 x1) σ S); simp only [eE_dlit]; exact .ok _
  | .call x0 x1, h, σ => by have h := h; simp only [uE, Bool.and_eq_true] at h; show Pu (fun S => evE G (.call x0 x1) σ S); simp only [eE_call]; exact (pL x1 (by simp [*]) σ).bnd fun xs => hG _ _
  | .callk x0 x1 x2 x3, h, σ => by have h := h; simp only [uE, Bool.and_eq_true] at h; obtain ⟨h0, h1⟩ := h; show Pu (fun S => evE G (.callk x0 x1 x2 x3) σ S); simp only [eE_callk]; exact (pL x1 (by simp [*]) σ).bnd fun xs => (pL x2 (by simp [*]) σ).bnd fun ys => hG _ _
  | .bi x0 x1, h, σ => by have h := h; simp only [uE, Bool.and_eq_true] at h; show Pu (fun S => evE G (.bi x0 x1) σ S); simp only [eE_bi]; exact (pL x1 (by simp [*]) σ).bnd fun xs => .lif _
  | .isi x0 x1, h, σ => by have h := h; simp only [uE, Bool.and_eq_true] at h; show Pu (fun S => evE G (.isi x0 x1) σ S); simp only [eE_isi]; exact (pE x0 (by simp [*]) σ).bnd fun x => .lif _
  | .mt x0 x1 x2, h, σ => by have h := h; simp only [uE, Bool.and_eq_true] at h; obtain ⟨h0, h1⟩ := h; show Pu (fun S => evE G (.mt x0 x1 x2) σ S); simp only [eE_mt]; exact (pE x1 (by simp [*]) σ).bnd fun x => .ite _ ((pL x2 (by simp [*]) σ).bnd fun xs => .lif _) .st
  | .lc x0 x1 x2 x3 x4, h, σ => by have h := h; simp only [uE, Bool.and_eq_true] at h; obtain ⟨⟨h0, h1⟩, h2⟩ := h; show Pu (fun S => evE G (.lc x0 x1 x2 x3 x4) σ S); simp only [ev_lc]; exact (pI x3 (by simp [*]) σ).bnd fun xs => (pu_lcGo (pu_lcF (pC x4 (by simp [*])) (pE x0 (by simp [*]))) xs).bnd fun ys => .ok _
  | .lstI x0, h, σ => by have h := h; simp only [uE, Bool.and_eq_true] at h; show Pu (fun S => evE G (.lstI x0) σ S); simp only [eE_lstI]; exact (pE x0 (by simp [*]) σ).bnd fun x => .lif _
  | .tupI x0, h, σ => by have h := h; simp only [uE, Bool.and_eq_true] at h; show Pu (fun S => evE G (.tupI x0) σ S); simp only [eE_tupI]; exact (pE x0 (by simp [*]) σ).bnd fun x => .lif _
  | .pub x0, h, σ => by simp [uE] at h
  | .rd x0, h, σ => by have h := h; simp only [uE, Bool.and_eq_true] at h; show Pu (fun S => evE G (.rd x0) σ S); simp only [eE_rd]; exact (pE x0 (by simp [*]) σ).bnd fun x => .lifS fun a h S => rd_emp h S
  | .dsp x0, h, σ => by have h := h; simp only [uE, Bool.and_eq_true] at h; show Pu (fun S => evE G (.dsp x0) σ S); simp only [eE_dsp]; exact (pL x0 (by simp [*]) σ).bnd fun x => .lif _
  | .dspT x0 x1, h, σ => by have h := h; simp only [uE, Bool.and_eq_true] at h; obtain ⟨h0, h1⟩ := h; show Pu (fun S => evE G (.dspT x0 x1) σ S); simp only [eE_dspT]; exact (pE x0 (by simp [*]) σ).bnd fun x => (pE x1 (by simp [*]) σ).bnd fun y => .ite _ (.ok _) .st
  | .dctT, h, σ => by show Pu (fun S => evE G (.dctT) σ S); simp only [eE_dctT]; exact .ok _
  | .cmpX x0 x1 x2, h, σ => by simp [uE] at h
  | .rpr x0, h, σ => by simp [uE] at h
  | .nev, h, σ => by show Pu (fun S => evE G (.nev) σ S); simp only [eE_nev]; exact .st
  | .fnv x0, h, σ => by show Pu (fun S => evE G (.fnv x0) σ S); simp only [eE_fnv]; exact .ok _
  | .cfv x0 x1 x2, h, σ => by have h := h; simp only [uE, Bool.and_eq_true] at h; obtain ⟨h0, h1⟩ := h; show Pu (fun S => evE G (.cfv x0 x1 x2) σ S); simp only [eE_cfv]; exact (pE x0 (by simp [*]) σ).bnd fun x => by cases x <;> first | exact .st | exact (pL x2 (by simp [*]) σ).bnd fun xs => .ite _ (hG _ _) .st
  | .isx x0 x1, h, σ => by have h := h; simp only [uE, Bool.and_eq_true] at h; show Pu (fun S => evE G (.isx x0 x1) σ S); simp only [eE_isx]; exact (pE x0 (by simp [*]) σ).bnd fun x => .lif _
  | .isv x0, h, σ => by have h := h; simp only [uE, Bool.and_eq_true] at h; show Pu (fun S => evE G (.isv x0) σ S); simp only [eE_isv]; exact (pE x0 (by simp [*]) σ).bnd fun x => .lif _
  | .xval x0, h, σ => by have h := h; simp only [uE, Bool.and_eq_true] at h; show Pu (fun S => evE G (.xval x0) σ S); simp only [eE_xval]; exact (pE x0 (by simp [*]) σ).bnd fun x => .lif _
  | .isi2 x0 x1 x2, h, σ => by have h := h; simp only [uE, Bool.and_eq_true] at h; show Pu (fun S => evE G (.isi2 x0 x1 x2) σ S); simp only [eE_isi2]; exact (pE x0 (by simp [*]) σ).bnd fun x => .lif _
  | .lcR x0 x1 x2 x3 x4, h, σ => by simp [uE] at h
  | .lcZ x0 x1 x2 x3 x4, h, σ => by simp [uE] at h
  | .lrg x0, h, σ => by have h := h; simp only [uE, Bool.and_eq_true] at h; show Pu (fun S => evE G (.lrg x0) σ S); simp only [eE_lrg]; exact (pL x0 (by simp [*]) σ).bnd fun x => .lif _
  | .dgt x0 x1 x2, h, σ => by have h := h; simp only [uE, Bool.and_eq_true] at h; obtain ⟨⟨h0, h1⟩, h2⟩ := h; show Pu (fun S => evE G (.dgt x0 x1 x2) σ S); simp only [eE_dgt]; exact (pE x0 (by simp [*]) σ).bnd fun x => by cases x <;> first | exact .st | exact (pE x1 (by simp [*]) σ).bnd fun y => (pE x2 (by simp [*]) σ).bnd fun w => .lif _
  | .lcD x0 x1 x2 x3 x4, h, σ => by have h := h; simp only [uE, Bool.and_eq_true] at h; obtain ⟨h0, h1⟩ := h; show Pu (fun S => evE G (.lcD x0 x1 x2 x3 x4) σ S); simp only [evE_lcD]; unfold dcRun; generalize σ[x3]? = z; rcases z with _ | (_ | d | d) <;> first | exact .st | (cases d <;> first | exact .st | exact .ite _ ((pu_lcGo (pu_lcF (pC x4 (by simp [*])) (pE x0 (by simp [*]))) _).bnd fun ys => .ok _) .st | exact .ite _ ((pu_lcGo (pu_lcF (pC x4 (by simp [*])) (pE x0 (by simp [*]))) _).bnd fun ys => .ite _ (.ok _) .st) .st)
theorem pT : ∀ (e : Xp), uE e = true → ∀ σ, Pu (evT G e σ)
  | .var x0, h, σ => by show Pu (fun S => evT G (.var x0) σ S); simp only [eT_var]; generalize σ[x0]? = z; rcases z with _ | (_ | d | d) <;> first | exact .st | exact .lif _
  | .bvar x0, h, σ => by show Pu (fun S => evT G (.bvar x0) σ S); simp only [eT_bvar]; exact .lif _
  | .lit x0, h, σ => by show Pu (fun S => evT G (.lit x0) σ S); simp only [evT]; exact .st
  | .gv x0, h, σ => by show Pu (fun S => evT G (.gv x0) σ S); simp only [evT]; exact .st
  | .bin x0 x1 x2, h, σ => by show Pu (fun S => evT G (.bin x0 x1 x2) σ S); simp only [evT]; exact .st
  | .neg x0, h, σ => by show Pu (fun S => evT G (.neg x0) σ S); simp only [evT]; exact .st
  | .nt x0, h, σ => by have h := h; simp only [uE, Bool.and_eq_true] at h; show Pu (fun S => evT G (.nt x0) σ S); simp only [eT_nt]; exact (pT x0 (by simp [*]) σ).bnd fun k => .ok _
  | .and_ x0 x1, h, σ => by have h := h; simp only [uE, Bool.and_eq_true] at h; obtain ⟨h0, h1⟩ := h; show Pu (fun S => evT G (.and_ x0 x1) σ S); simp only [eT_and_]; exact (pT x0 (by simp [*]) σ).bnd fun k => .ite _ (pT x1 (by simp [*]) σ) (.ok _)
  | .or_ x0 x1, h, σ => by have h := h; simp only [uE, Bool.and_eq_true] at h; obtain ⟨h0, h1⟩ := h; show Pu (fun S => evT G (.or_ x0 x1) σ S); simp only [eT_or_]; exact (pT x0 (by simp [*]) σ).bnd fun k => .ite _ (.ok _) (pT x1 (by simp [*]) σ)
  | .one x0, h, σ => by have h := h; simp only [uE, Bool.and_eq_true] at h; show Pu (fun S => evT G (.one x0) σ S); simp only [eT_one]; exact (pT x0 (by simp [*]) σ)
  | .ife x0 x1 x2, h, σ => by show Pu (fun S => evT G (.ife x0 x1 x2) σ S); simp only [evT]; exact .st
  | .cmp x0 x1 x2, h, σ => by have h := h; simp only [uE, Bool.and_eq_true] at h; obtain ⟨h0, h1⟩ := h; show Pu (fun S => evT G (.cmp x0 x1 x2) σ S); simp only [eT_cmp]; exact (pE x1 (by simp [*]) σ).bnd fun x => (pE x2 (by simp [*]) σ).bnd fun y => .lif _
  | .chn x0 x1 x2 x3 x4, h, σ => by have h := h; simp only [uE, Bool.and_eq_true] at h; obtain ⟨⟨h0, h1⟩, h2⟩ := h; show Pu (fun S => evT G (.chn x0 x1 x2 x3 x4) σ S); simp only [eT_chn]; exact (pE x2 (by simp [*]) σ).bnd fun x => (pE x3 (by simp [*]) σ).bnd fun y => (Pu.lif _).bnd fun k => .ite _ ((pE x4 (by simp [*]) σ).bnd fun z => .lif _) (.ok _)
  | .tup x0, h, σ => by show Pu (fun S => evT G (.tup x0) σ S); simp only [evT]; exact .st
  | .lst x0, h, σ => by show Pu (fun S => evT G (.lst x0) σ S); simp only [evT]; exact .st
  | .sub x0 x1, h, σ => by have h := h; simp only [uE, Bool.and_eq_true] at h; obtain ⟨h0, h1⟩ := h; show Pu (fun S => evT G (.sub x0 x1) σ S); simp only [eT_sub]; exact (pE x0 (by simp [*]) σ).bnd fun x => (pE x1 (by simp [*]) σ).bnd fun y => .lifS fun a h S => by obtain ⟨z, h1, h2⟩ := Option.bind_eq_some_iff.mp h; rw [sub_emp h1 S]; exact h2
  | .sli x0 x1 x2, h, σ => by show Pu (fun S => evT G (.sli x0 x1 x2) σ S); simp only [evT]; exact .st
  | .rev x0, h, σ => by show Pu (fun S => evT G (.rev x0) σ S); simp only [evT]; exact .st
  | .dct0, h, σ => by show Pu (fun S => evT G (.dct0) σ S); simp only [evT]; exact .st
  | .dlit x0 x1, h, σ => by show Pu (fun S => evT G (.dlit x0 x1) σ S); simp only [evT]; exact .st
  | .call x0 x1, h, σ => by have h := h; simp only [uE, Bool.and_eq_true] at h; show Pu (fun S => evT G (.call x0 x1) σ S); simp only [eT_call]; exact (pL x1 (by simp [*]) σ).bnd fun xs => (hG _ _).bnd fun x => .lif _
  | .callk x0 x1 x2 x3, h, σ => by show Pu (fun S => evT G (.callk x0 x1 x2 x3) σ S); simp only [evT]; exact .st
  | .bi x0 x1, h, σ => by have h := h; simp only [uE, Bool.and_eq_true] at h; show Pu (fun S => evT G (.bi x0 x1) σ S); simp only [eT_bi]; exact (pL x1 (by simp [*]) σ).bnd fun xs => .lif _
  | .isi x0 x1, h, σ => by have h := h; simp only [uE, Bool.and_eq_true] at h; show Pu (fun S => evT G (.isi x0 x1) σ S); simp only [eT_isi]; exact (pE x0 (by simp [*]) σ).bnd fun x => .lif _
  | .mt x0 x1 x2, h, σ => by show Pu (fun S => evT G (.mt x0 x1 x2) σ S); simp only [evT]; exact .st
  | .lc x0 x1 x2 x3 x4, h, σ => by show Pu (fun S => evT G (.lc x0 x1 x2 x3 x4) σ S); simp only [evT]; exact .st
  | .lstI x0, h, σ => by show Pu (fun S => evT G (.lstI x0) σ S); simp only [evT]; exact .st
  | .tupI x0, h, σ => by show Pu (fun S => evT G (.tupI x0) σ S); simp only [evT]; exact .st
  | .pub x0, h, σ => by simp [uE] at h
  | .rd x0, h, σ => by show Pu (fun S => evT G (.rd x0) σ S); simp only [evT]; exact .st
  | .dsp x0, h, σ => by show Pu (fun S => evT G (.dsp x0) σ S); simp only [evT]; exact .st
  | .dspT x0 x1, h, σ => by show Pu (fun S => evT G (.dspT x0 x1) σ S); simp only [evT]; exact .st
  | .dctT, h, σ => by show Pu (fun S => evT G (.dctT) σ S); simp only [evT]; exact .st
  | .cmpX x0 x1 x2, h, σ => by simp [uE] at h
  | .rpr x0, h, σ => by simp [uE] at h
  | .nev, h, σ => by show Pu (fun S => evT G (.nev) σ S); simp only [evT]; exact .st
  | .fnv x0, h, σ => by show Pu (fun S => evT G (.fnv x0) σ S); simp only [evT]; exact .st
  | .cfv x0 x1 x2, h, σ => by have h := h; simp only [uE, Bool.and_eq_true] at h; obtain ⟨h0, h1⟩ := h; show Pu (fun S => evT G (.cfv x0 x1 x2) σ S); simp only [eT_cfv]; exact ((pE x0 (by simp [*]) σ).bnd fun x => by cases x <;> first | exact .st | exact (pL x2 (by simp [*]) σ).bnd fun xs => .ite _ (hG _ _) .st).bnd fun y => .lif _
  | .isx x0 x1, h, σ => by have h := h; simp only [uE, Bool.and_eq_true] at h; show Pu (fun S => evT G (.isx x0 x1) σ S); simp only [eT_isx]; exact (pE x0 (by simp [*]) σ).bnd fun x => .lif _
  | .isv x0, h, σ => by have h := h; simp only [uE, Bool.and_eq_true] at h; show Pu (fun S => evT G (.isv x0) σ S); simp only [eT_isv]; exact (pE x0 (by simp [*]) σ).bnd fun x => .lif _
  | .xval x0, h, σ => by show Pu (fun S => evT G (.xval x0) σ S); simp only [evT]; exact .st
  | .isi2 x0 x1 x2, h, σ => by have h := h; simp only [uE, Bool.and_eq_true] at h; show Pu (fun S => evT G (.isi2 x0 x1 x2) σ S); simp only [eT_isi2]; exact (pE x0 (by simp [*]) σ).bnd fun x => .lif _
  | .lcR x0 x1 x2 x3 x4, h, σ => by simp [uE] at h
  | .lcZ x0 x1 x2 x3 x4, h, σ => by simp [uE] at h
  | .lrg x0, h, σ => by show Pu (fun S => evT G (.lrg x0) σ S); simp only [evT]; exact .st
  | .dgt x0 x1 x2, h, σ => by show Pu (fun S => evT G (.dgt x0 x1 x2) σ S); simp only [evT]; exact .st
  | .lcD x0 x1 x2 x3 x4, h, σ => by show Pu (fun S => evT G (.lcD x0 x1 x2 x3 x4) σ S); simp only [evT]; exact .st
theorem pC : ∀ (e : Xpo), uO e = true → ∀ σ, Pu (evC G e σ)
  | .none, h, σ => by show Pu (fun S => evC G .none σ S); simp only [eC_none]; exact .ok _
  | .some e, h, σ => by have h := h; simp only [uO] at h; show Pu (fun S => evC G (.some e) σ S); simp only [eC_some]; exact (pT e h σ).nox
theorem pO : ∀ (e : Xpo), uO e = true → ∀ σ, Pu (evO G e σ)
  | .none, h, σ => by show Pu (fun S => evO G .none σ S); simp only [eO_none]; exact .ok _
  | .some e, h, σ => by have h := h; simp only [uO] at h; show Pu (fun S => evO G (.some e) σ S); simp only [eO_some]; exact (pE e h σ).bnd fun x => by cases x <;> first | exact .st | exact .ok _
theorem pL : ∀ (e : Xps), uL e = true → ∀ σ, Pu (evEs G e σ)
  | .nil, h, σ => by show Pu (fun S => evEs G .nil σ S); simp only [es_nil]; exact .ok _
  | .cons e r, h, σ => by have h := h; simp only [uL, Bool.and_eq_true] at h; obtain ⟨h0, h1⟩ := h; show Pu (fun S => evEs G (.cons e r) σ S); simp only [es_cons]; exact (pE e h0 σ).bnd fun x => (pL r h1 σ).bnd fun xs => .ok _
theorem pI : ∀ (e : Iq), uI e = true → ∀ σ, Pu (evI G e σ)
  | .seq e, h, σ => by have h := h; simp only [uI] at h; show Pu (fun S => evI G (.seq e) σ S); simp only [ev_s]; exact (pE e h σ).bnd fun x => .lif _
  | .rng e, h, σ => by have h := h; simp only [uI] at h; show Pu (fun S => evI G (.rng e) σ S); simp only [ev_r]; exact (pL e h σ).bnd fun x => .lif _
  | .zip e, h, σ => by have h := h; simp only [uI] at h; show Pu (fun S => evI G (.zip e) σ S); simp only [ev_z]; exact (pL e h σ).bnd fun x => .lif _
  | .enm e, h, σ => by have h := h; simp only [uI] at h; show Pu (fun S => evI G (.enm e) σ S); simp only [ev_e]; exact (pE e h σ).bnd fun x => by cases x <;> first | exact .st | exact .ok _
  | .rvs e, h, σ => by have h := h; simp only [uI] at h; show Pu (fun S => evI G (.rvs e) σ S); simp only [evI]; exact (pE e h σ).bnd fun x => .lif _
end
end
end PV

namespace PV
mutual
def uS : Sm → Bool
  | .asg _ x1 => uE x1
  | .asgO _ x1 => uE x1
  | .par _ x1 => uL x1
  | .parO _ _ x2 x3 => uE x2 && uE x3
  | .parP _ _ x2 x3 => uE x2 && uE x3
  | .aug _ x1 => uE x1
  | .exp x0 => uE x0
  | .app _ x1 => uE x1
  | .ext _ x1 => uE x1
  | .ins _ x1 x2 => uE x1 && uE x2
  | .putO _ x1 x2 => uE x1 && uE x2
  | .appR _ _ => false
  | .popO _ _ => true
  | .asb _ x1 => uE x1
  | .putR _ _ _ => false
  | .newR _ _ => false
  | .frz _ => true
  | .ife x0 x1 x2 => uE x0 && uB x1 && uB x2
  | .for_ _ x1 x2 => uI x1 && uB x2
  | .whl x0 x1 => uE x0 && uB x1
  | .ret x0 => uE x0
  | .retR _ => false
  | .retN => true
  | .brk => true
  | .cnt => true
  | .pas => true
  | .never => true
  | .rse _ x1 => uE x1
  | .tryA x0 _ _ _ => uB x0
  | .appP _ _ x2 => uE x2
  | .parQ _ _ x2 x3 => uE x2 && uE x3
  | .popK _ _ x2 => uE x2
def uB : Sms → Bool
  | .nil => true
  | .cons s r => uS s && uB r
end
theorem pu_try {m : List D → R (Fl × Sg)} {c i j : Nat} (h : Pu m) : Pu (fun S => match m S with
    | .ok (.xc (.exc d fs), σ1) S1 => if c = 0 ∨ c = d then (if i = j then .stuck else .ok (.nx, (σ1.set j .un).set i (.val (.exc d fs))) S1) else .ok (.xc (.exc d fs), σ1) S1
    | .ok (.xc _, _) _ => .stuck
    | r => r) := by
  cases e : m [] with
  | ok a S0 =>
    obtain ⟨rfl, h2⟩ := h.okP e
    simp only [h2]
    obtain ⟨fl, σ1⟩ := a
    cases fl with
    | xc d => cases d <;> first | exact .st | exact .ite _ (.ite _ .st (.ok _)) (.ok _)
    | _ => exact .ok _
  | exc a S0 =>
    obtain ⟨rfl, h2⟩ := h.excP e
    simp only [h2]
    exact .xc _
  | stuck => exact .i3 (by rw [e])
section
variable {G : Env} (hG : PuG G)
include hG

theorem pS_asg {x0 x1} (h : uS (.asg x0 x1) = true) (σ : Sg) : Pu (exS G (.asg x0 x1) σ) := by have h := h; simp only [uS, Bool.and_eq_true] at h; show Pu (fun S => exS G (.asg x0 x1) σ S); simp only [xS_asg]; exact (pE hG x1 (by simp [*]) σ).gt fun x => by cases setT x0 x σ with | none => exact .st | some σ1 => exact .ok _
theorem pS_asgO {x0 x1} (h : uS (.asgO x0 x1) = true) (σ : Sg) : Pu (exS G (.asgO x0 x1) σ) := by have h := h; simp only [uS, Bool.and_eq_true] at h; show Pu (fun S => exS G (.asgO x0 x1) σ S); simp only [xS_asgO]; exact (pE hG x1 (by simp [*]) σ).gt fun x => .ite _ (.ok _) .st
theorem pS_par {x0 x1} (h : uS (.par x0 x1) = true) (σ : Sg) : Pu (exS G (.par x0 x1) σ) := by have h := h; simp only [uS, Bool.and_eq_true] at h; show Pu (fun S => exS G (.par x0 x1) σ S); simp only [xS_par]; exact (pL hG x1 (by simp [*]) σ).gt fun x => by cases setPar x0 x σ with | none => exact .st | some σ1 => exact .ok _
theorem pS_parO {x0 x1 x2 x3} (h : uS (.parO x0 x1 x2 x3) = true) (σ : Sg) : Pu (exS G (.parO x0 x1 x2 x3) σ) := by have h := h; simp only [uS, Bool.and_eq_true] at h; obtain ⟨h0, h1⟩ := h; show Pu (fun S => exS G (.parO x0 x1 x2 x3) σ S); simp only [xS_parO]; exact (pE hG x2 (by simp [*]) σ).gt fun x => (pE hG x3 (by simp [*]) σ).gt fun y => .ite _ (.ok _) .st
theorem pS_parP {x0 x1 x2 x3} (h : uS (.parP x0 x1 x2 x3) = true) (σ : Sg) : Pu (exS G (.parP x0 x1 x2 x3) σ) := by have h := h; simp only [uS, Bool.and_eq_true] at h; obtain ⟨h0, h1⟩ := h; show Pu (fun S => exS G (.parP x0 x1 x2 x3) σ S); simp only [xS_parP]; exact (pE hG x2 (by simp [*]) σ).gt fun x => (pE hG x3 (by simp [*]) σ).gt fun y => .ite _ (.ok _) .st
theorem pS_aug {x0 x1} (h : uS (.aug x0 x1) = true) (σ : Sg) : Pu (exS G (.aug x0 x1) σ) := by have h := h; simp only [uS, Bool.and_eq_true] at h; show Pu (fun S => exS G (.aug x0 x1) σ S); simp only [xS_aug]; generalize σ[x0]? = z; rcases z with _ | (_ | d | d) <;> first | exact .st | (cases d <;> first | exact .st | exact (pE hG x1 (by simp [*]) σ).gt fun y => by cases y <;> first | exact .st | exact .ok _)
theorem pS_exp {x0} (h : uS (.exp x0) = true) (σ : Sg) : Pu (exS G (.exp x0) σ) := by have h := h; simp only [uS, Bool.and_eq_true] at h; show Pu (fun S => exS G (.exp x0) σ S); simp only [xS_exp]; exact (pE hG x0 (by simp [*]) σ).gt fun x => .ok _
theorem pS_app {x0 x1} (h : uS (.app x0 x1) = true) (σ : Sg) : Pu (exS G (.app x0 x1) σ) := by have h := h; simp only [uS, Bool.and_eq_true] at h; show Pu (fun S => exS G (.app x0 x1) σ S); simp only [xS_app]; generalize σ[x0]? = z; rcases z with _ | (_ | d | d) <;> first | exact .st | (cases d <;> first | exact .st | exact (pE hG x1 (by simp [*]) σ).gt fun y => .ite _ (.ok _) .st)
theorem pS_ext {x0 x1} (h : uS (.ext x0 x1) = true) (σ : Sg) : Pu (exS G (.ext x0 x1) σ) := by have h := h; simp only [uS, Bool.and_eq_true] at h; show Pu (fun S => exS G (.ext x0 x1) σ S); simp only [xS_ext]; generalize σ[x0]? = z; rcases z with _ | (_ | d | d) <;> first | exact .st | (cases d <;> first | exact .st | exact (pE hG x1 (by simp [*]) σ).gt fun y => by (generalize extD _ y = w; cases w <;> first | exact .st | exact .ok _))
theorem pS_ins {x0 x1 x2} (h : uS (.ins x0 x1 x2) = true) (σ : Sg) : Pu (exS G (.ins x0 x1 x2) σ) := by have h := h; simp only [uS, Bool.and_eq_true] at h; obtain ⟨h0, h1⟩ := h; show Pu (fun S => exS G (.ins x0 x1 x2) σ S); simp only [xS_ins]; generalize σ[x0]? = z; rcases z with _ | (_ | d | d) <;> first | exact .st | (cases d <;> first | exact .st | exact (pE hG x1 (by simp [*]) σ).gt fun x => (pE hG x2 (by simp [*]) σ).gt fun y => by (generalize insD _ x y = w; cases w <;> first | exact .st | exact .ok _))
theorem pS_putO {x0 x1 x2} (h : uS (.putO x0 x1 x2) = true) (σ : Sg) : Pu (exS G (.putO x0 x1 x2) σ) := by have h := h; simp only [uS, Bool.and_eq_true] at h; obtain ⟨h0, h1⟩ := h; show Pu (fun S => exS G (.putO x0 x1 x2) σ S); simp only [xS_putO]; exact (pE hG x2 (by simp [*]) σ).gt fun y => by generalize σ[x0]? = z; rcases z with _ | (_ | d | d) <;> first | exact .st | exact (pE hG x1 (by simp [*]) σ).gt fun x => by (generalize setD d x y = w; cases w <;> first | exact .st | exact .ok _)
theorem pS_popO {x0 x1} (h : uS (.popO x0 x1) = true) (σ : Sg) : Pu (exS G (.popO x0 x1) σ) := by show Pu (fun S => exS G (.popO x0 x1) σ S); simp only [xS_popO]; generalize σ[x1]? = z; rcases z with _ | (_ | d | d) <;> first | exact .st | (dsimp only; generalize popD d = w; rcases w with _ | ⟨y, d'⟩ <;> first | exact .st | exact .ite _ .st (.ok _))
theorem pS_asb {x0 x1} (h : uS (.asb x0 x1) = true) (σ : Sg) : Pu (exS G (.asb x0 x1) σ) := by have h := h; simp only [uS, Bool.and_eq_true] at h; show Pu (fun S => exS G (.asb x0 x1) σ S); simp only [xS_asb]; generalize σ[x0]? = z; rcases z with _ | (_ | d | d) <;> first | exact .st | (cases d <;> first | exact .st | exact (pE hG x1 (by simp [*]) σ).gt fun y => by cases y <;> first | exact .st | exact .ok _)
theorem pS_frz {x0} (h : uS (.frz x0) = true) (σ : Sg) : Pu (exS G (.frz x0) σ) := by show Pu (fun S => exS G (.frz x0) σ S); simp only [xS_frz]; generalize σ[x0]? = z; rcases z with _ | (_ | d | d) <;> exact .ok _
theorem pS_ret {x0} (h : uS (.ret x0) = true) (σ : Sg) : Pu (exS G (.ret x0) σ) := by have h := h; simp only [uS, Bool.and_eq_true] at h; show Pu (fun S => exS G (.ret x0) σ S); simp only [xS_ret]; exact (pE hG x0 (by simp [*]) σ).gt fun x => .ok _
theorem pS_retN (h : uS (.retN) = true) (σ : Sg) : Pu (exS G (.retN) σ) := by show Pu (fun S => exS G (.retN) σ S); simp only [xS_retN]; exact .ok _
theorem pS_brk (h : uS (.brk) = true) (σ : Sg) : Pu (exS G (.brk) σ) := by show Pu (fun S => exS G (.brk) σ S); simp only [xS_brk]; exact .ok _
theorem pS_cnt (h : uS (.cnt) = true) (σ : Sg) : Pu (exS G (.cnt) σ) := by show Pu (fun S => exS G (.cnt) σ S); simp only [xS_cnt]; exact .ok _
theorem pS_pas (h : uS (.pas) = true) (σ : Sg) : Pu (exS G (.pas) σ) := by show Pu (fun S => exS G (.pas) σ S); simp only [xS_pas]; exact .ok _
theorem pS_never (h : uS (.never) = true) (σ : Sg) : Pu (exS G (.never) σ) := by show Pu (fun S => exS G (.never) σ S); simp only [xS_never]; exact .st
theorem pS_rse {x0 x1} (h : uS (.rse x0 x1) = true) (σ : Sg) : Pu (exS G (.rse x0 x1) σ) := by have h := h; simp only [uS, Bool.and_eq_true] at h; show Pu (fun S => exS G (.rse x0 x1) σ S); simp only [xS_rse]; exact (pE hG x1 (by simp [*]) σ).gt fun x => .ok _
theorem pS_appP {x0 x1 x2} (h : uS (.appP x0 x1 x2) = true) (σ : Sg) : Pu (exS G (.appP x0 x1 x2) σ) := by have h := h; simp only [uS, Bool.and_eq_true] at h; show Pu (fun S => exS G (.appP x0 x1 x2) σ S); simp only [xS_appP]; generalize σ[x0]? = z; generalize σ[x1]? = z2; rcases z with _ | (_ | d | d) <;> first | exact .st | (cases d <;> first | exact .st | (rcases z2 with _ | (_ | d2 | d2) <;> first | exact .st | (cases d2 <;> first | exact .st | exact (pE hG x2 (by simp [*]) σ).gt fun k => by (cases k <;> first | exact .st | (refine .ite _ ?_ .st; generalize popKD _ _ = w; rcases w with _ | ⟨y, d'⟩ <;> first | exact .st | exact .ok _)))))
theorem pS_parQ {x0 x1 x2 x3} (h : uS (.parQ x0 x1 x2 x3) = true) (σ : Sg) : Pu (exS G (.parQ x0 x1 x2 x3) σ) := by have h := h; simp only [uS, Bool.and_eq_true] at h; obtain ⟨h0, h1⟩ := h; show Pu (fun S => exS G (.parQ x0 x1 x2 x3) σ S); simp only [xS_parQ]; exact (pE hG x2 (by simp [*]) σ).gt fun x => (pE hG x3 (by simp [*]) σ).gt fun y => .ite _ (.ok _) .st
theorem pS_popK {x0 x1 x2} (h : uS (.popK x0 x1 x2) = true) (σ : Sg) : Pu (exS G (.popK x0 x1 x2) σ) := by have h := h; simp only [uS, Bool.and_eq_true] at h; show Pu (fun S => exS G (.popK x0 x1 x2) σ S); simp only [xS_popK]; generalize σ[x1]? = z; rcases z with _ | (_ | d | d) <;> first | exact .st | (cases d <;> first | exact .st | exact (pE hG x2 (by simp [*]) σ).gt fun k => by (cases k <;> first | exact .st | (refine .ite _ ?_ .st; generalize popKD _ _ = w; rcases w with _ | ⟨y, d'⟩ <;> first | exact .st | exact .ok _)))
omit hG
theorem pS_ife {c : Xp} {a b : Sms} (hc : ∀ σ, Pu (evT G c σ)) (ha : ∀ σ, Pu (exSs G a σ)) (hb : ∀ σ, Pu (exSs G b σ)) (σ : Sg) : Pu (exS G (.ife c a b) σ) := by show Pu (fun S => exS G (.ife c a b) σ S); simp only [xS_ife]; exact (hc σ).gt fun k => .ite _ (ha σ) (hb σ)
theorem pS_for_ {t : Tg} {it : Iq} {b : Sms} (hc : ∀ σ, Pu (evI G it σ)) (hb : ∀ σ, Pu (exSs G b σ)) (σ : Sg) : Pu (exS G (.for_ t it b) σ) := by show Pu (fun S => exS G (.for_ t it b) σ S); simp only [xS_for_]; exact (hc σ).gt fun xs => pu_forGo (fun σ => hb σ) xs σ
theorem pS_whl {c : Xp} {b : Sms} (hc : ∀ σ, Pu (evT G c σ)) (hb : ∀ σ, Pu (exSs G b σ)) (σ : Sg) : Pu (exS G (.whl c b) σ) := by
  have k : ∀ n, Pu (fun S => whlGo (fun σ S => evT G c σ S) (fun σ S => exSs G b σ S) n σ S) := fun n => pu_whlGo hc hb n σ
  have e : (fun S => exS G (.whl c b) σ S) = fun S => whlGo (fun σ S => evT G c σ S) (fun σ S => exSs G b σ S) turns σ S := funext fun S => xS_whl G c b σ S
  exact Eq.mpr (congrArg Pu e) (k turns)
theorem pS_tryA {b : Sms} {c i j : Nat} (hb : ∀ σ, Pu (exSs G b σ)) (σ : Sg) : Pu (exS G (.tryA b c i j) σ) := by show Pu (fun S => exS G (.tryA b c i j) σ S); simp only [xS_tryA]; exact pu_try (hb σ)
include hG
mutual
theorem pS : ∀ (s : Sm), uS s = true → ∀ σ, Pu (exS G s σ)
  | .asg x0 x1, h, σ => pS_asg hG h σ
  | .asgO x0 x1, h, σ => pS_asgO hG h σ
  | .par x0 x1, h, σ => pS_par hG h σ
  | .parO x0 x1 x2 x3, h, σ => pS_parO hG h σ
  | .parP x0 x1 x2 x3, h, σ => pS_parP hG h σ
  | .aug x0 x1, h, σ => pS_aug hG h σ
  | .exp x0, h, σ => pS_exp hG h σ
  | .app x0 x1, h, σ => pS_app hG h σ
  | .ext x0 x1, h, σ => pS_ext hG h σ
  | .ins x0 x1 x2, h, σ => pS_ins hG h σ
  | .putO x0 x1 x2, h, σ => pS_putO hG h σ
  | .appR x0 x1, h, σ => by simp [uS] at h
  | .popO x0 x1, h, σ => pS_popO hG h σ
  | .asb x0 x1, h, σ => pS_asb hG h σ
  | .putR x0 x1 x2, h, σ => by simp [uS] at h
  | .newR x0 x1, h, σ => by simp [uS] at h
  | .frz x0, h, σ => pS_frz hG h σ
  | .ife x0 x1 x2, h, σ => by have h := h; simp only [uS, Bool.and_eq_true] at h; obtain ⟨⟨h0, h1⟩, h2⟩ := h; exact pS_ife (pT hG x0 h0) (pB x1 h1) (pB x2 h2) σ
  | .for_ x0 x1 x2, h, σ => by have h := h; simp only [uS, Bool.and_eq_true] at h; obtain ⟨h0, h1⟩ := h; exact pS_for_ (pI hG x1 h0) (pB x2 h1) σ
  | .whl x0 x1, h, σ => by have h := h; simp only [uS, Bool.and_eq_true] at h; obtain ⟨h0, h1⟩ := h; exact pS_whl (pT hG x0 h0) (pB x1 h1) σ
  | .ret x0, h, σ => pS_ret hG h σ
  | .retR x0, h, σ => by simp [uS] at h
  | .retN, h, σ => pS_retN hG h σ
  | .brk, h, σ => pS_brk hG h σ
  | .cnt, h, σ => pS_cnt hG h σ
  | .pas, h, σ => pS_pas hG h σ
  | .never, h, σ => pS_never hG h σ
  | .rse x0 x1, h, σ => pS_rse hG h σ
  | .tryA x0 x1 x2 x3, h, σ => by have h := h; simp only [uS, Bool.and_eq_true] at h; exact pS_tryA (pB x0 h) σ
  | .appP x0 x1 x2, h, σ => pS_appP hG h σ
  | .parQ x0 x1 x2 x3, h, σ => pS_parQ hG h σ
  | .popK x0 x1 x2, h, σ => pS_popK hG h σ
theorem pB : ∀ (s : Sms), uB s = true → ∀ σ, Pu (exSs G s σ)
  | .nil, h, σ => by show Pu (fun S => exSs G .nil σ S); simp only [xs_nil]; exact .ok _
  | .cons s r, h, σ => by
    have h := h
    simp only [uB, Bool.and_eq_true] at h
    obtain ⟨h0, h1⟩ := h
    show Pu (fun S => exSs G (.cons s r) σ S)
    simp only [xs_cons]
    refine (pS s h0 σ).bnd fun q => ?_
    obtain ⟨fl, σ1⟩ := q
    cases fl with
    | nx => exact pB r h1 σ1
    | _ => exact .ok _
end
end
theorem pu_end {m : List D → R (Fl × Sg)} (h : Pu m) : Pu (fun S => endR (m S)) := by
  cases e : m [] with
  | ok a S0 =>
    obtain ⟨rfl, h2⟩ := h.okP e
    simp only [h2]
    obtain ⟨fl, σ1⟩ := a
    cases fl <;> first | exact .st | exact .ok _ | exact .xc _
  | exc a S0 => exact .i3 (by rw [e]; rfl)
  | stuck => exact .i3 (by rw [e]; rfl)
/-- a def whose callees are so is so -/
theorem pu_run {fs : List (List D → List D → R D)} {gs : List D} {n : Nat} {b : Sms} (hb : uB b = true) (hf : ∀ i, ∀ ds, Pu (fnT fs i ds)) (ds : List D) : Pu (runF ⟨fnT fs, gvT gs⟩ n b ds) :=
  pu_end (pB (G := ⟨fnT fs, gvT gs⟩) (fun k ds => hf k ds) b hb _)
theorem pu_nil : ∀ i, ∀ ds, Pu (fnT [] i ds) := fun i ds => by
  have : fnT [] i = fun _ _ => .stuck := by unfold fnT; simp
  rw [this]
  exact .st
theorem pu_cons {f : List D → List D → R D} {fs : List (List D → List D → R D)} (h : ∀ ds, Pu (f ds)) (k : ∀ i, ∀ ds, Pu (fnT fs i ds)) : ∀ i, ∀ ds, Pu (fnT (f :: fs) i ds)
  | 0, ds => h ds
  | i + 1, ds => k i ds
/-! ### a closed run, looked at -/
mutual
def smD : D → D → Bool
  | .non, .non => true
  | .bl a, .bl b => a == b
  | .int a, .int b => a == b
  | .str a, .str b => a == b
  | .lst a, .lst b => smDs a b
  | .tup a, .tup b => smDs a b
  | .dct a c, .dct b d => smDs a b && smDs c d
  | .exc a c, .exc b d => a == b && smDs c d
  | _, _ => false
def smDs : List D → List D → Bool
  | [], [] => true
  | x :: xs, y :: ys => smD x y && smDs xs ys
  | _, _ => false
end
mutual
theorem smD_eq : ∀ (a b : D), smD a b = true → a = b
  | .non, b, h => by cases b <;> simp_all [smD]
  | .bl a, b, h => by cases b <;> simp_all [smD]
  | .int a, b, h => by cases b <;> simp_all [smD]
  | .str a, b, h => by cases b <;> simp_all [smD]
  | .lst a, b, h => by cases b <;> first | (simp [smD] at h; done) | (simp only [smD] at h; rw [smDs_eq _ _ h])
  | .tup a, b, h => by cases b <;> first | (simp [smD] at h; done) | (simp only [smD] at h; rw [smDs_eq _ _ h])
  | .dct a c, b, h => by cases b <;> first | (simp [smD] at h; done) | (simp only [smD, Bool.and_eq_true] at h; rw [smDs_eq _ _ h.1, smDs_eq _ _ h.2])
  | .exc a c, b, h => by cases b <;> first | (simp [smD] at h; done) | (simp only [smD, Bool.and_eq_true, beq_iff_eq] at h; rw [h.1, smDs_eq _ _ h.2])
  | .fn _, b, h => by simp [smD] at h
  | .ref _, b, h => by simp [smD] at h
  | .scr _, b, h => by simp [smD] at h
theorem smDs_eq : ∀ (a b : List D), smDs a b = true → a = b
  | [], [], _ => rfl
  | x :: xs, y :: ys, h => by
    have h := h
    simp only [smDs, Bool.and_eq_true] at h
    rw [smD_eq x y h.1, smDs_eq xs ys h.2]
  | [], _ :: _, h => by simp [smDs] at h
  | _ :: _, [], h => by simp [smDs] at h
end
def isOk (m : R D) (d : D) : Bool := match m with
  | .ok a _ => smD a d
  | _ => false
def isEx (m : R D) (d : D) : Bool := match m with
  | .exc a _ => smD a d
  | _ => false
def isAny (m : R D) : Bool := match m with
  | .ok _ _ => true
  | _ => false
theorem Pu.at {m : List D → R D} (h : Pu m) {d : D} (e : isOk (m []) d = true) (S : List D) : m S = .ok d S := by
  unfold isOk at e
  split at e
  · rename_i a S0 e2
    rw [← smD_eq _ _ e]
    exact (h.okP e2).2 S
  · cases e
theorem Pu.ex {m : List D → R D} (h : Pu m) {d : D} (e : isEx (m []) d = true) (S : List D) : m S = .exc d S := by
  unfold isEx at e
  split at e
  · rename_i a S0 e2
    rw [← smD_eq _ _ e]
    exact (h.excP e2).2 S
  · cases e
theorem Pu.any {m : List D → R D} (h : Pu m) (e : isAny (m []) = true) : ∃ d, ∀ S, m S = .ok d S := by
  unfold isAny at e
  split at e
  · rename_i a S0 e2
    exact ⟨a, (h.okP e2).2⟩
  · cases e
end PV

/-! ## PV: what many laws ask: exact, copied, repr -/
namespace PV
def bExact : Sms := (.cons (.ife (.isi (.var 1) .lst) (.cons (.ret (.and_ (.isi (.var 0) .lst) (.and_ (.cmp .eq (.bi .len (.cons (.var 0) .nil)) (.bi .len (.cons (.var 1) .nil))) (.one (.cmp .notin (.lit (.bl false)) (.lc (.call 0 (.cons (.var 2) (.cons (.var 3) .nil))) [2, 3] (.tp2 (.nm 2) (.nm 3)) (.zip (.cons (.var 0) (.cons (.var 1) .nil))) .none)))))) .nil) .nil) (.cons (.ife (.isi (.var 1) .tup) (.cons (.ret (.and_ (.isi (.var 0) .tup) (.and_ (.cmp .eq (.bi .len (.cons (.var 0) .nil)) (.bi .len (.cons (.var 1) .nil))) (.one (.cmp .notin (.lit (.bl false)) (.lc (.call 0 (.cons (.var 2) (.cons (.var 3) .nil))) [2, 3] (.tp2 (.nm 2) (.nm 3)) (.zip (.cons (.var 0) (.cons (.var 1) .nil))) .none)))))) .nil) .nil) (.cons (.ife (.cmp .is (.var 1) (.lit .non)) (.cons (.ret (.cmp .is (.var 0) (.lit .non))) .nil) .nil) (.cons (.ife (.cmp .is (.var 1) (.lit (.bl true))) (.cons (.ret (.cmp .is (.var 0) (.lit (.bl true)))) .nil) .nil) (.cons (.ife (.cmp .is (.var 1) (.lit (.bl false))) (.cons (.ret (.cmp .is (.var 0) (.lit (.bl false)))) .nil) .nil) (.cons (.ife (.isi (.var 1) .int) (.cons (.ret (.and_ (.isi (.var 0) .int) (.and_ (.nt (.isi (.var 0) .bool)) (.one (.cmp .eq (.var 0) (.var 1)))))) .nil) .nil) (.cons (.ret (.and_ (.isi (.var 0) .str) (.one (.cmp .eq (.var 0) (.var 1))))) .nil)))))))
def rExact : Nat → List D → List D → R D
  | 0 => fun _ _ => .stuck
  | n + 1 => runF ⟨fnT [rExact n], gvT []⟩ 4 bExact
def bCopied : Sms := (.cons (.ife (.isi (.var 0) .lst) (.cons (.ret (.lc (.call 0 (.cons (.var 1) .nil)) [1] (.nm 1) (.seq (.var 0)) .none)) .nil) .nil) (.cons (.ife (.isi (.var 0) .tup) (.cons (.ret (.tupI (.lc (.call 0 (.cons (.var 1) .nil)) [1] (.nm 1) (.seq (.var 0)) .none))) .nil) .nil) (.cons (.ret (.var 0)) .nil)))
def rCopied : Nat → List D → List D → R D
  | 0 => fun _ _ => .stuck
  | n + 1 => runF ⟨fnT [rCopied n], gvT []⟩ 2 bCopied
/-- plain data, no deeper than that -/
def shal : Nat → D → Bool
  | 0, _ => false
  | _ + 1, .non | _ + 1, .bl _ | _ + 1, .int _ | _ + 1, .str _ => true
  | n + 1, .lst xs | n + 1, .tup xs => xs.all (shal n)
  | _ + 1, _ => false
theorem lc_map {G : Env} {e : Xp} {own : List Nat} {t : Tg} {σ : Sg} {S : List D} {xs : List D} {g : D → D} (h : ∀ x ∈ xs, ∃ σ1, setT t x (wipeG σ own) = some σ1 ∧ evE G e σ1 S = .ok (g x) S) : lcGo (lcF G e own t .none σ) xs S = .ok (xs.map g) S := by
  rw [lcGo_pure (g := fun x => [g x]) xs fun x hx => ?_]
  · congr 1
    induction xs with
    | nil => rfl
    | cons x r ih => rw [List.flatMap_cons, ih fun y hy => h y (List.mem_cons_of_mem _ hy)]; rfl
  · obtain ⟨σ1, h1, h2⟩ := h x hx
    unfold lcF
    rw [h1]
    simp only [evC, R.bnd_ok, if_true, h2, R.nox_ok]
theorem lc_filter {G : Env} {e c : Xp} {own : List Nat} {t : Tg} {σ : Sg} {S : List D} {xs : List D} {p : D → Bool} (h : ∀ x ∈ xs, ∃ σ1, setT t x (wipeG σ own) = some σ1 ∧ evT G c σ1 S = .ok (p x) S ∧ evE G e σ1 S = .ok x S) :
    lcGo (lcF G e own t (.some c) σ) xs S = .ok (xs.filter p) S := by
  rw [lcGo_pure (g := fun x => if p x = true then [x] else []) xs fun x hx => ?_]
  · congr 1
    induction xs with
    | nil => rfl
    | cons x r ih =>
      rw [List.flatMap_cons, ih fun y hy => h y (List.mem_cons_of_mem _ hy), List.filter_cons]
      split <;> rfl
  · obtain ⟨σ1, h1, h2, h3⟩ := h x hx
    unfold lcF
    rw [h1]
    simp only [evC, h2, R.nox_ok, R.bnd_ok, h3]
    cases p x <;> rfl
theorem zip_self (f : D → D → D) : ∀ xs : List D, List.zipWith f xs xs = xs.map fun x => f x x
  | [] => rfl
  | x :: r => by simp [zip_self f r]
theorem inD_true {ys : List D} (h : ∀ y ∈ ys, y = .bl true) : inD (.bl false) (.lst ys) = some false := by
  have h1 : datasOk ys = true := by
    induction ys with
    | nil => rfl
    | cons y r ih =>
      rw [h y List.mem_cons_self]
      show (true && datasOk r) = true
      rw [ih fun z hz => h z (List.mem_cons_of_mem _ hz)]; rfl
  have h2 : (ys.any fun y => eqD y (.bl false)) = false := by
    rw [List.any_eq_false]
    intro y hy
    rw [h y hy]
    decide
  unfold inD
  show (if (true && datasOk ys && (decide (deps ys ≤ 60) || true)) = true then some (ys.any fun y => eqD y (.bl false)) else none) = some false
  rw [h1, h2, Bool.or_true]; rfl
theorem exact_ok : ∀ (n : Nat) (d : D) (S : List D), shal n d = true → rExact n [d, d] S = .ok (.bl true) S
  | 0, _, _, h => by cases h
  | n + 1, d, S, h => by
    have key : Ok (rExact (n + 1) [d, d] S) fun v S' => v = .bl true ∧ S' = S := by
      refine Ok_run (C_if1 ?_)
      have seq : ∀ xs : List D, xs.all (shal n) = true → lcGo (lcF ⟨fnT [rExact n], gvT []⟩ (.call 0 (.cons (.var 2) (.cons (.var 3) .nil))) [2, 3] (.tp2 (.nm 2) (.nm 3)) .none [.val d, .val d, .un, .un]) (xs.map fun a => .tup [a, a]) S = .ok ((xs.map fun a => D.tup [a, a]).map fun _ => .bl true) S := by
        intro xs hx
        refine lc_map fun x hm => ?_
        have : ∃ y ∈ xs, x = .tup [y, y] := by
          obtain ⟨y, hy, rfl⟩ := List.mem_map.mp hm
          exact ⟨y, hy, rfl⟩
        obtain ⟨y, hy, rfl⟩ := this
        refine ⟨[.val d, .val d, .val y, .val y], rfl, ?_⟩
        have ih := exact_ok n y S (List.all_eq_true.mp hx y hy)
        simp only [eE_chn, evE, evEs]
        show R.bnd (R.ok [y, y] S) _ = _
        exact ih
      have notin : ∀ xs : List D, inD (.bl false) (.lst ((xs.map fun a => D.tup [a, a]).map fun _ => .bl true)) = some false := fun xs =>
        inD_true (fun y hy => by obtain ⟨_, _, e⟩ := List.mem_map.mp hy; exact e.symm)
      cases d with
      | lst xs =>
        have hx : xs.all (shal n) = true := h
        simp [tyD, EndP]
        simp [zipD]
        rw [seq xs hx]
        simp only [Ok_ok, notin]
        simp
      | tup xs =>
        have hx : xs.all (shal n) = true := h
        simp [tyD, EndP]
        refine C_if1 ?_
        simp [tyD, EndP]
        simp [zipD]
        rw [seq xs hx]
        simp only [Ok_ok, notin]
        simp
      | non =>
        simp [tyD, EndP]
        refine C_if1 ?_
        simp [tyD, EndP]
        refine C_if1 ?_
        simp [isD, EndP]
      | bl b =>
        simp [tyD, EndP]
        refine C_if1 ?_
        simp [tyD, EndP]
        refine C_if1 ?_
        simp [isD, EndP]
        refine C_if1 ?_
        cases b
        · simp [isD, EndP]
          refine C_if1 ?_
          simp [isD, EndP]
        · simp [isD, EndP]
      | int i =>
        simp [tyD, EndP]
        refine C_if1 ?_
        simp [tyD, EndP]
        refine C_if1 ?_
        simp [isD, EndP]
        refine C_if1 ?_
        simp [isD, EndP]
        refine C_if1 ?_
        simp [isD, EndP]
        refine C_if1 ?_
        simp [tyD, EndP]
      | str x =>
        simp [tyD, EndP]
        refine C_if1 ?_
        simp [tyD, EndP]
        refine C_if1 ?_
        simp [isD, EndP]
        refine C_if1 ?_
        simp [isD, EndP]
        refine C_if1 ?_
        simp [isD, EndP]
        refine C_if1 ?_
        simp [tyD, EndP]
        refine C_ret ?_
        simp [tyD, EndP]
      | _ => cases h
    obtain ⟨v, S', e, rfl, rfl⟩ := key.ex
    exact e
theorem inD_lst {x : D} {ys : List D} (hx : dataOk x = true) (hy : datasOk ys = true) (hd : dep x ≤ 60) : inD x (.lst ys) = some (ys.any fun y => eqD y x) := by
  have c : (dataOk x && datasOk ys && (decide (deps ys ≤ 60) || decide (dep x ≤ 60))) = true := by
    rw [hx, hy, decide_eq_true hd, Bool.or_true]; rfl
  exact if_pos c
theorem inD_tup {x : D} {ys : List D} (hx : dataOk x = true) (hy : datasOk ys = true) (hd : dep x ≤ 60) : inD x (.tup ys) = some (ys.any fun y => eqD y x) := by
  have c : (dataOk x && datasOk ys && (decide (deps ys ≤ 60) || decide (dep x ≤ 60))) = true := by
    rw [hx, hy, decide_eq_true hd, Bool.or_true]; rfl
  exact if_pos c
end PV

/-! ## PV: texts of data are short -/
namespace PV
open PySem
theorem repr_fits {d : D} (B : Nat) (hB : 8 ≤ B) (h : (toRd d).leavesShort B = true) (hw : (B + 2) * (toRd d).weight + B ≤ SZ) : (reprS d).length ≤ SZ := by
  have e : (reprS d).length = (toRd d).shown.length := by unfold reprS; rw [Array.length_toList]; rfl
  rw [e]
  exact Nat.le_trans (PyData.shown_le B hB _ h) hw
theorem int_short {i : Int} (h : i.natAbs < 10 ^ 98) : (PyData.int i).leavesShort 99 = true := by
  have e := int_text_length_le10 (a := i) (k := 98) (by decide) h
  simp only [PyData.leavesShort, decide_eq_true_eq]
  have e2 : (PyData.shown (.int i)).length = (toString i).length := ofString_length _
  rw [e2]
  exact e
theorem int_log {i : Int} (h : i.natAbs < 10 ^ 98) : i.natAbs.log2 < 330 := by
  by_cases h0 : i.natAbs = 0
  · rw [h0]; decide
  · exact (Nat.log2_lt h0).mpr (Nat.lt_of_lt_of_le h (by decide))
/-- small leaves -/
def leafS : D → Bool
  | .non | .bl _ => true
  | .int i => decide (i.natAbs < 10 ^ 98)
  | .str x => decide (x.length ≤ 1000) && x.all fun c => decide (c < 1114112)
  | _ => false
theorem leaf_ok {d : D} (h : leafS d = true) : (toR d).leavesShort 99 = true ∧ (toR d).weight ≤ 1000 ∧ showOk d = true ∧ dep d = 0 ∧ dataOk d = true := by
  cases d with
  | non => exact ⟨rfl, by decide, rfl, rfl, rfl⟩
  | bl b => exact ⟨rfl, Nat.zero_le _, rfl, rfl, rfl⟩
  | int i =>
    have h : decide (i.natAbs < 10 ^ 98) = true := h
    have h := of_decide_eq_true h
    have hl := int_log h
    refine ⟨int_short h, ?_, decide_eq_true (by omega), rfl, rfl⟩
    show (if i == 0 then 0 else i.natAbs.log2 + 1) ≤ 1000
    split <;> omega
  | str x =>
    have h : (decide (x.length ≤ 1000) && x.all fun c => decide (c < 1114112)) = true := h
    simp only [Bool.and_eq_true, decide_eq_true_eq, List.all_eq_true] at h
    refine ⟨?_, ?_, rfl, rfl, rfl⟩
    · show (x.toArray.toList.all fun c => decide (c < 16 ^ 8)) = true
      rw [List.all_eq_true]
      intro c hc
      have := h.2 c (by simpa using hc)
      exact decide_eq_true (Nat.lt_of_lt_of_le this (by decide))
    · show x.toArray.size ≤ 1000
      rw [List.size_toArray]; exact h.1
  | _ => cases h
theorem leaves_ok : ∀ {xs : List D}, xs.all leafS = true → PyData.leavesShortAll 99 (toRs xs) = true ∧ PyData.weightAll (toRs xs) ≤ 1001 * xs.length ∧ showsOk xs = true ∧ deps xs = 0 ∧ datasOk xs = true
  | [], _ => ⟨rfl, Nat.zero_le _, rfl, rfl, rfl⟩
  | x :: r, h => by
    simp only [List.all_cons, Bool.and_eq_true] at h
    obtain ⟨a1, a2, a3, a4, a5⟩ := leaf_ok h.1
    obtain ⟨b1, b2, b3, b4, b5⟩ := leaves_ok h.2
    refine ⟨?_, ?_, ?_, ?_, ?_⟩
    · show ((toR x).leavesShort 99 && PyData.leavesShortAll 99 (toRs r)) = true
      rw [a1, b1]; rfl
    · show (toR x).weight + 1 + PyData.weightAll (toRs r) ≤ 1001 * (r.length + 1)
      omega
    · show (showOk x && showsOk r) = true
      rw [a3, b3]; rfl
    · show max (dep x) (deps r) = 0
      rw [a4, b4]; rfl
    · show (dataOk x && datasOk r) = true
      rw [a5, b5]; rfl
theorem repr_leaf {d : D} (h : leafS d = true) : (reprS d).length ≤ SZ := by
  obtain ⟨a1, a2, _⟩ := leaf_ok h
  have e : toRd d = toR d := by cases d <;> first | rfl | cases h
  refine repr_fits 99 (by decide) (by rw [e]; exact a1) ?_
  rw [e]
  have : (99 + 2) * (toR d).weight + 99 ≤ 16777216 := by omega
  exact this
theorem repr_lst {xs : List D} (h : xs.all leafS = true) (hl : xs.length ≤ 150) : (reprS (.lst xs)).length ≤ SZ := by
  obtain ⟨a1, a2, _⟩ := leaves_ok h
  refine repr_fits 99 (by decide) a1 ?_
  have : (99 + 2) * PyData.weightAll (toRs xs) + 99 ≤ 16777216 := by omega
  exact this
theorem repr_tup {xs : List D} (h : xs.all leafS = true) (hl : xs.length ≤ 150) : (reprS (.tup xs)).length ≤ SZ := by
  obtain ⟨a1, a2, _⟩ := leaves_ok h
  refine repr_fits 99 (by decide) a1 ?_
  have : (99 + 2) * PyData.weightAll (toRs xs) + 99 ≤ 16777216 := by omega
  exact this
end PV

/-! ## PV: what many laws draw: copies, sorted lists, values of all kinds -/
namespace PV
/-- plain data, no deeper than that; dicts as they are -/
def shalC : Nat → D → Bool
  | 0, _ => false
  | _ + 1, .non | _ + 1, .bl _ | _ + 1, .int _ | _ + 1, .str _ | _ + 1, .dct _ _ => true
  | n + 1, .lst xs | n + 1, .tup xs => xs.all (shalC n)
  | _ + 1, _ => false
theorem copied_ok : ∀ (n : Nat) (d : D) (S : List D), shalC n d = true → rCopied n [d] S = .ok d S
  | 0, _, _, h => by cases h
  | n + 1, d, S, h => by
    have key : Ok (rCopied (n + 1) [d] S) fun v S' => v = d ∧ S' = S := by
      refine Ok_run (C_if1 ?_)
      have seq : ∀ xs : List D, xs.all (shalC n) = true → lcGo (lcF ⟨fnT [rCopied n], gvT []⟩ (.call 0 (.cons (.var 1) .nil)) [1] (.nm 1) .none [.val d, .un]) xs S = .ok xs S := by
        intro xs hx
        have e := lc_map (G := ⟨fnT [rCopied n], gvT []⟩) (e := .call 0 (.cons (.var 1) .nil)) (own := [1]) (t := .nm 1) (σ := [.val d, .un]) (S := S) (xs := xs) (g := fun x => x) fun x hm => by
          refine ⟨[.val d, .val x], rfl, ?_⟩
          simp [copied_ok n x S (List.all_eq_true.mp hx x hm)]
        rw [e, List.map_id']
      cases d with
      | lst xs =>
        simp [tyD, iterD]
        rw [seq xs h]
        simp [EndP]
      | tup xs =>
        simp [tyD]
        refine C_if1 ?_
        simp [tyD, iterD]
        rw [seq xs h]
        simp [EndP, tupD]
      | non => simp [tyD]; refine C_if1 ?_; simp [tyD]; refine C_ret ?_; simp [EndP]
      | bl b => simp [tyD]; refine C_if1 ?_; simp [tyD]; refine C_ret ?_; simp [EndP]
      | int i => simp [tyD]; refine C_if1 ?_; simp [tyD]; refine C_ret ?_; simp [EndP]
      | str x => simp [tyD]; refine C_if1 ?_; simp [tyD]; refine C_ret ?_; simp [EndP]
      | dct ks vs => simp [tyD]; refine C_if1 ?_; simp [tyD]; refine C_ret ?_; simp [EndP]
      | _ => cases h
    obtain ⟨v, S', e, rfl, rfl⟩ := key.ex
    exact e
theorem insB_mem {α : Type} {lt : α → α → Bool} {x y : α} : ∀ {l : List α}, y ∈ insB lt x l → y = x ∨ y ∈ l
  | [], h => by
    have h : y ∈ [x] := h
    exact .inl (List.mem_singleton.mp h)
  | z :: r, h => by
    unfold insB at h
    split at h
    · rcases List.mem_cons.mp h with e | e
      · exact .inr (e ▸ List.mem_cons_self)
      · rcases insB_mem e with e | e
        · exact .inl e
        · exact .inr (List.mem_cons_of_mem _ e)
    · rcases List.mem_cons.mp h with e | e
      · exact .inl e
      · exact .inr e
theorem insB_len {α : Type} {lt : α → α → Bool} {x : α} : ∀ {l : List α}, (insB lt x l).length = l.length + 1
  | [] => rfl
  | z :: r => by
    unfold insB
    split
    · rw [List.length_cons, insB_len, List.length_cons]
    · rfl
theorem sortB_mem {α : Type} {lt : α → α → Bool} {y : α} : ∀ {l : List α}, y ∈ sortB lt l → y ∈ l
  | [], h => h
  | x :: r, h => by
    rcases insB_mem (show y ∈ insB lt x (sortB lt r) from h) with e | e
    · exact e ▸ List.mem_cons_self
    · exact List.mem_cons_of_mem _ (sortB_mem e)
theorem sortB_len {α : Type} {lt : α → α → Bool} : ∀ {l : List α}, (sortB lt l).length = l.length
  | [] => rfl
  | x :: r => by
    show (insB lt x (sortB lt r)).length = _
    rw [insB_len, sortB_len]; rfl
/-- ints alone, or few texts -/
theorem sorted_I (l : List Int) : biD .sorted [.lst (l.map .int)] = some (.lst ((sortI l).map .int)) := by
  show (match intsOf (l.map .int) with | some l => _ | none => _) = _
  rw [intsOf_map]
theorem strsOf_map : ∀ l : List (List Nat), strsOf (l.map .str) = some l
  | [] => rfl
  | x :: r => by show (strsOf (r.map .str)).map (x :: ·) = _; rw [strsOf_map r]; rfl
theorem sorted_S (l : List (List Nat)) (h : l.length < 64) : biD .sorted [.lst (l.map .str)] = some (.lst ((sortS l).map .str)) := by
  cases l with
  | nil => rfl
  | cons x r =>
    have e : strsOf (D.str x :: r.map .str) = some (x :: r) := strsOf_map (x :: r)
    have e0 : intsOf (D.str x :: r.map .str) = none := rfl
    rw [bi_sorted, List.map_cons, e0, e]
    exact if_pos h
def bUnlike : Sms := (.cons (.asgO 1 (.lst .nil)) (.cons (.for_ (.nm 2) (.seq (.bi .sorted (.cons (.var 0) .nil))) (.cons (.ife (.cmp .notin (.var 2) (.bvar 1)) (.cons (.app 1 (.var 2)) .nil) .nil) .nil)) (.cons (.ret (.bvar 1)) .nil)))
def fUnlike : List D → List D → R D := runF ⟨fnT [], gvT []⟩ 3 bUnlike
theorem unlike_go {xs zs : List D} {S : List D} (hs : biD .sorted [.lst xs] = some (.lst zs)) (hz : ∀ z ∈ zs, z ∈ xs) (hl : zs.length = xs.length) (hd : xs.all leafS = true) (h1 : xs.length ≤ 150) :
    ∃ ys, fUnlike [.lst xs] S = .ok (.lst ys) S ∧ (∀ y ∈ ys, y ∈ xs) ∧ ys.length ≤ xs.length := by
  have key : Ok (fUnlike [.lst xs] S) fun v S' => (∃ ys, v = .lst ys ∧ (∀ y ∈ ys, y ∈ xs) ∧ ys.length ≤ xs.length) ∧ S' = S := by
    refine Ok_run (C_asgO ?_)
    simp [isOb]
    refine C_for ?_
    simp [hs, iterD]
    refine Ok_forGo (fun j σ S' => (∃ (ys : List D) (t : Slot), σ = [.val (.lst xs), .own (.lst ys), t] ∧ (∀ y ∈ ys, y ∈ xs) ∧ ys.length ≤ j) ∧ S' = S) _ 0 _ _ ⟨⟨[], .un, rfl, ⟨fun _ h => (by cases h), Nat.le_refl _⟩⟩, rfl⟩ (fun j x σ S' hx hI => ?_) fun σ S' hI => ?_
    · obtain ⟨⟨ys, t, rfl, hy, hyl⟩, rfl⟩ := hI
      refine ⟨[.val (.lst xs), .own (.lst ys), .val x], rfl, ?_⟩
      have hxm : x ∈ xs := hz x (List.mem_of_getElem? hx)
      have hj : j < zs.length := (List.getElem?_eq_some_iff.mp hx).1
      have lx := leaf_ok (List.all_eq_true.mp hd x hxm)
      have hys : ys.all leafS = true := List.all_eq_true.mpr fun y h => List.all_eq_true.mp hd y (hy y h)
      have hin := inD_lst (x := x) (ys := ys) lx.2.2.2.2 (leaves_ok hys).2.2.2.2 (by rw [lx.2.2.2.1]; decide)
      refine C_ife ?_
      simp [hin, Slot.get]
      split
      · refine Ok_cons (Ok_app (xs := ys) rfl (by show ys.length < 16777216; omega) ?_)
        simp
        refine SeqP_i (Ok_nil ?_)
        refine ⟨⟨ys ++ [x], ⟨_, rfl⟩, fun y hm => ?_, by rw [List.length_append, List.length_singleton]; omega⟩, rfl⟩
        rcases List.mem_append.mp hm with e | e
        · exact hy y e
        · cases List.mem_singleton.mp e; exact hxm
      · exact Ok_nil ⟨⟨ys, ⟨_, rfl⟩, hy, by omega⟩, rfl⟩
    · obtain ⟨⟨ys, t, rfl, hy, hyl⟩, rfl⟩ := hI
      refine SeqP_i (C_ret ?_)
      simp [Slot.get, EndP]
      exact ⟨hy, by simp at hyl; omega⟩
  obtain ⟨v, S', e, ⟨ys, rfl, h1, h2⟩, rfl⟩ := key.ex
  exact ⟨ys, e, h1, h2⟩
def fCopied : List D → List D → R D := rCopied 6
def bAny : Sms := (.cons (.asg (.nm 1) (.lst (.cons (.lit .non) (.cons (.lit (.bl true)) (.cons (.lit (.bl false)) (.cons (.lit (.int 0)) (.cons (.lit (.int 1)) (.cons (.neg (.lit (.int 1))) (.cons (.bin .pow (.lit (.int 10)) (.lit (.int 29))) (.cons (.lit (.str [])) (.cons (.lit (.str [97])) (.cons (.lit (.str [65])) (.cons (.lit (.str [97, 98])) (.cons (.lit (.str [97, 32, 98])) (.cons (.lit (.str [49, 97])) (.cons (.lit (.str [97, 49])) (.cons (.lit (.str [32])) (.cons (.lit (.str [97, 10])) (.cons (.bin .mul (.lit (.str [122])) (.lit (.int 20))) (.cons (.bin .mul (.lit (.str [122])) (.lit (.int 21))) (.cons (.lit (.str [97, 98, 99, 100, 101, 102, 103, 104])) (.cons (.lit (.str [97, 98, 99, 100, 101, 102, 103, 104, 105])) .nil)))))))))))))))))))))) (.cons (.asg (.nm 1) (.bin .add (.var 1) (.lst (.cons (.lst .nil) (.cons (.tup .nil) (.cons .dct0 (.cons (.lst (.cons (.lit (.int 0)) .nil)) (.cons (.lst (.cons (.lit (.int 1)) (.cons (.lit (.int 0)) .nil))) (.cons (.lst (.cons (.lit (.int 0)) (.cons (.lit (.str [97])) .nil))) (.cons (.lst (.cons (.lit (.str [97])) (.cons (.lit (.int 0)) .nil))) (.cons (.lst (.cons (.lit .non) (.cons (.lit (.int 0)) .nil))) (.cons (.lst (.cons (.lit (.int 0)) (.cons (.lst (.cons (.lit (.int 1)) .nil)) .nil))) (.cons (.lst (.cons (.lit (.int 0)) (.cons (.tup (.cons (.lit (.int 1)) .nil)) .nil))) (.cons (.lst (.cons (.lit (.bl true)) .nil)) (.cons (.lst (.cons (.lit (.int 0)) (.cons (.lit (.int 1)) .nil))) (.cons (.lst (.cons (.lit (.int 0)) (.cons (.lit (.int 0)) .nil))) (.cons (.tup (.cons (.lit (.int 0)) (.cons (.lit (.int 1)) .nil))) (.cons (.lst (.cons (.lit (.str [97])) .nil)) (.cons (.lst (.cons (.lst .nil) .nil)) .nil))))))))))))))))))) (.cons (.asg (.nm 1) (.bin .add (.var 1) (.lst (.cons (.dlit [97] (.int 1)) (.cons (.lst (.cons (.lit (.int 1)) (.cons (.lit (.int 2)) (.cons (.bin .pow (.lit (.int 10)) (.lit (.int 29))) .nil)))) (.cons (.lst (.cons (.neg (.lit (.int 1))) .nil)) (.cons (.lit (.str [97, 95, 98])) (.cons (.lit (.str [97, 66])) (.cons (.bin .mul (.lit (.str [97])) (.lit (.int 200))) (.cons (.lit (.str [101, 48])) (.cons (.lit (.str [48])) (.cons (.lit (.str [104, 111, 117, 115, 101])) (.cons (.tup (.cons (.lit (.str [104, 111, 117, 115, 101])) .nil)) .nil))))))))))))) (.cons (.ret (.call 0 (.cons (.call 1 (.cons (.var 0) (.cons (.var 1) .nil))) .nil))) .nil))))
def fAny : List D → List D → R D := runF ⟨fnT [fCopied, fPick], gvT []⟩ 2 bAny
def anyMenu : List D := [.non, .bl true, .bl false, .int 0, .int 1, .int (-1), .int (10 ^ 29), .str [], .str [97], .str [65], .str [97, 98], .str [97, 32, 98], .str [49, 97], .str [97, 49], .str [32], .str [97, 10], .str (List.replicate 20 122), .str (List.replicate 21 122), .str [97, 98, 99, 100, 101, 102, 103, 104], .str [97, 98, 99, 100, 101, 102, 103, 104, 105]] ++
  [.lst [], .tup [], .dct [] [], .lst [.int 0], .lst [.int 1, .int 0], .lst [.int 0, .str [97]], .lst [.str [97], .int 0], .lst [.non, .int 0], .lst [.int 0, .lst [.int 1]], .lst [.int 0, .tup [.int 1]], .lst [.bl true], .lst [.int 0, .int 1], .lst [.int 0, .int 0], .tup [.int 0, .int 1], .lst [.str [97]], .lst [.lst []]] ++
  [.dct [.str [97]] [.int 1], .lst [.int 1, .int 2, .int (10 ^ 29)], .lst [.int (-1)], .str [97, 95, 98], .str [97, 66], .str (List.replicate 200 97), .str [101, 48], .str [48], .str [104, 111, 117, 115, 101], .tup [.str [104, 111, 117, 115, 101]]]
theorem any_ok {n k : Nat} {S : List D} {P : D → List D → Prop} (hG : Gn n k S) (hk : k + 6000 < 2 ^ 62) (h : ∀ d S', d ∈ anyMenu → Gn n (k + 100) S' → P d S') : Ok (fAny [.ref n] S) P := by
  have e1 : bopD .mul (.str [122]) (.int 20) = some (.str (List.replicate 20 122)) := by rfl
  have e2 : bopD .mul (.str [122]) (.int 21) = some (.str (List.replicate 21 122)) := by rfl
  have e3 : bopD .mul (.str [97]) (.int 200) = some (.str (List.replicate 200 97)) := by rfl
  have p29 : bopD .pow (.int 10) (.int 29) = some (.int (10 ^ 29)) := bop_powI (by decide) (by decide)
  refine Ok_run ?_
  show Ok (exSs _ bAny [.val (.ref n), .un] S) _
  refine C_asg ?_
  simp only [List.map_cons, List.map_nil, eE_lst, es_cons, es_nil, eE_lit, eE_bin, eE_neg, R.bnd_ok, R.lif_some, e1, e2, p29]
  rw [if_pos (by decide)]
  simp only [Ok_ok]
  refine C_asg ?_
  simp only [eE_lst, eE_tup, es_cons, es_nil, eE_lit, eE_bin, eE_var, eE_dct0, eE_dlit, R.bnd_ok, R.lif_some, List.cons_append, List.nil_append, List.set_cons_succ, List.set_cons_zero, List.getElem?_cons_succ, List.getElem?_cons_zero, List.length_cons, List.length_nil, Nat.zero_add, Nat.reduceAdd, SZ, Nat.reduceLeDiff, if_true]
  rw [bop_addL (by decide)]
  simp only [R.lif_some, Ok_ok]
  refine C_asg ?_
  simp only [eE_lst, eE_tup, es_cons, es_nil, eE_lit, eE_bin, eE_neg, eE_var, eE_dct0, eE_dlit, e3, p29, R.bnd_ok, R.lif_some, List.set_cons_succ, List.set_cons_zero, List.getElem?_cons_succ, List.getElem?_cons_zero, List.length_cons, List.length_nil, Nat.zero_add, Nat.reduceAdd, SZ, Nat.reduceLeDiff, if_true]
  rw [bop_addL (by decide)]
  simp only [R.lif_some, Ok_ok]
  refine C_ret ?_
  simp only [eE_call, es_cons, es_nil, eE_var, R.bnd_ok, List.set_cons_succ, List.set_cons_zero, List.getElem?_cons_succ, List.getElem?_cons_zero, fnT_0, fnT_1, Ok_bnd, Ok_ok]
  refine pickL hG (by omega) (by simp) (by decide) fun y S1 hy g1 => ?_
  have hy : y ∈ anyMenu := hy
  have hc : shalC 6 y = true := by
    have key : anyMenu.all (shalC 6) = true := by decide +kernel
    exact List.all_eq_true.mp key y hy
  have e6 : fCopied [y] S1 = .ok y S1 := copied_ok 6 y S1 hc
  simp only [e6]
  simp [EndP]
  exact h y S1 hy g1
/-- repr gives its text -/
def rpB (d : D) : Bool := showOkd d && decide (dep d ≤ 60) && (toRd d).leavesShort 99 && decide ((99 + 2) * (toRd d).weight + 99 ≤ 16777216)
theorem rp_ck {d : D} (h : rpB d = true) : biD .repr [d] = some (.str (reprS d)) := by
  unfold rpB at h
  simp only [Bool.and_eq_true, decide_eq_true_eq] at h
  exact if_pos ⟨h.1.1.1, h.1.1.2, repr_fits 99 (by decide) h.1.2 h.2⟩
theorem rp_leaf {d : D} (h : leafS d = true) : biD .repr [d] = some (.str (reprS d)) := by
  obtain ⟨_, _, a3, a4, _⟩ := leaf_ok h
  have e : showOkd d = showOk d := by cases d <;> first | rfl | cases h
  exact if_pos ⟨by rw [e]; exact a3, by rw [a4]; decide, repr_leaf h⟩
theorem rp_lst {xs : List D} (h : xs.all leafS = true) (hl : xs.length ≤ 150) : biD .repr [.lst xs] = some (.str (reprS (.lst xs))) := by
  obtain ⟨_, _, a3, a4, _⟩ := leaves_ok h
  exact if_pos ⟨a3, by show deps xs + 1 ≤ 60; rw [a4]; decide, repr_lst h hl⟩
theorem rp_tup {xs : List D} (h : xs.all leafS = true) (hl : xs.length ≤ 150) : biD .repr [.tup xs] = some (.str (reprS (.tup xs))) := by
  obtain ⟨_, _, a3, a4, _⟩ := leaves_ok h
  exact if_pos ⟨a3, by show deps xs + 1 ≤ 60; rw [a4]; decide, repr_tup h hl⟩
end PV

namespace K92
open PV
/-- _law_cell: slots 0 script, 1 index -/
def b__law_cell : Sms := (.cons (.ife (.cmp .lt (.var 1) (.bi .len (.cons (.var 0) .nil))) (.cons (.ret (.sub (.var 0) (.var 1))) .nil) .nil) (.cons (.ret (.bin .mod (.bi .sum (.cons (.sli (.var 0) .none (.some (.lit (.int 1)))) .nil)) (.lit (.int 1000003)))) .nil))
def f__law_cell : List D → List D → R D := runF ⟨fnT [], gvT []⟩ 2 b__law_cell
/-- _law_generator: slots 0 script, 1 index, 2 seed -/
def b__law_generator : Sms := (.cons (.asg (.nm 2) (.call 0 (.cons (.var 0) (.cons (.var 1) .nil)))) (.cons (.retR (.lst (.cons (.bin .mod (.bi .int (.cons (.bi .max (.cons (.bin .sub (.var 2) (.bin .pow (.lit (.int 10)) (.lit (.int 18)))) (.cons (.lit (.int 0)) .nil))) .nil)) (.bin .pow (.bin .pow (.lit (.int 10)) (.lit (.int 60))) (.lit (.int 10)))) (.cons (.bin .mod (.bi .int (.cons (.var 2) .nil)) (.lit (.int 2147483647))) (.cons (.bin .mul (.lit (.int 1000)) (.var 1)) .nil))))) .nil))
def f__law_generator : List D → List D → R D := runF ⟨fnT [f__law_cell], gvT []⟩ 3 b__law_generator
/-- _law_hash: slots 0 seed, 1 index, 2 mixed -/
def b__law_hash : Sms := (.cons (.asg (.nm 2) (.bin .mod (.bi .int (.cons (.bin .add (.bin .add (.bin .add (.bin .mul (.var 0) (.lit (.int 1140671))) (.bin .mul (.bin .mul (.lit (.int 27644437)) (.var 1)) (.var 1))) (.bin .mul (.lit (.int 131)) (.var 1))) (.lit (.int 19))) .nil)) (.lit (.int 2147483629)))) (.cons (.asg (.nm 2) (.bin .mod (.bi .int (.cons (.bin .add (.bin .add (.bin .mul (.var 2) (.var 2)) (.bin .mul (.lit (.int 62089)) (.var 1))) (.lit (.int 32416187))) .nil)) (.lit (.int 2147483587)))) (.cons (.ret (.bin .mod (.bi .int (.cons (.bin .mul (.var 2) (.lit (.int 48271))) .nil)) (.lit (.int 2147483647)))) .nil)))
def f__law_hash : List D → List D → R D := runF ⟨fnT [], gvT []⟩ 3 b__law_hash
/-- _law_random: slots 0 generator, 1 bound, 2 drawn, 3 turn -/
def b__law_random : Sms := (.cons (.ife (.cmp .gt (.sub (.var 0) (.lit (.int 0))) (.lit (.int 0))) (.cons (.asg (.nm 2) (.bin .mod (.bi .int (.cons (.sub (.var 0) (.lit (.int 0))) .nil)) (.var 1))) (.cons (.putR (.var 0) (.lit (.int 0)) (.bin .fdiv (.sub (.var 0) (.lit (.int 0))) (.var 1))) (.cons (.ret (.var 2)) .nil))) .nil) (.cons (.asg (.nm 2) (.lit (.int 0))) (.cons (.for_ (.nm 3) (.rng (.cons (.bin .add (.lit (.int 1)) (.bin .fdiv (.mt .bitlen (.var 1) .nil) (.lit (.int 30)))) .nil)) (.cons (.putR (.var 0) (.lit (.int 2)) (.bin .add (.sub (.var 0) (.lit (.int 2))) (.lit (.int 1)))) (.cons (.asg (.nm 2) (.bin .add (.bin .mul (.var 2) (.lit (.int 2147483587))) (.call 0 (.cons (.sub (.var 0) (.lit (.int 1))) (.cons (.sub (.var 0) (.lit (.int 2))) .nil))))) .nil))) (.cons (.ret (.bin .mod (.bi .int (.cons (.var 2) .nil)) (.var 1))) .nil))))
def f__law_random : List D → List D → R D := runF ⟨fnT [f__law_hash], gvT []⟩ 4 b__law_random
/-- _law_drawn_order: slots 0 generator, 1 things, 2 left, 3 found -/
def b__law_drawn_order : Sms := (.cons (.parQ 2 3 (.lstI (.var 1)) (.lst .nil)) (.cons (.whl (.cmp .ne (.bvar 2) (.lst .nil)) (.cons (.appP 3 2 (.call 0 (.cons (.var 0) (.cons (.bi .len (.cons (.bvar 2) .nil)) .nil)))) .nil)) (.cons (.ret (.bvar 3)) .nil)))
def f__law_drawn_order : List D → List D → R D := runF ⟨fnT [f__law_random], gvT []⟩ 4 b__law_drawn_order
/-- _law_odds: slots 0 kind, 1 strange -/
def b__law_odds : Sms := (.cons (.asg (.nm 1) (.lst (.cons (.lit .non) (.cons (.lit (.bl true)) (.cons (.bin .sub (.lit (.int 0)) (.lit (.int 1))) (.cons (.lst (.cons (.lit (.int 0)) .nil)) (.cons .dct0 (.cons (.tup .nil) (.cons (.lit (.str [65])) (.cons (.lit (.str [97, 32, 98])) (.cons (.lit (.str [49])) (.cons (.lst (.cons (.lit (.str [97])) .nil)) (.cons (.tup (.cons (.lit (.str [97])) (.cons (.lit (.str [98])) .nil))) .nil))))))))))))) (.cons (.ife (.cmp .eq (.var 0) (.lit (.str [115, 99, 114, 97, 112]))) (.cons (.ret (.bin .add (.var 1) (.lst (.cons (.lit (.str [])) (.cons (.lit (.int 7)) (.cons (.lit (.str [97, 98, 10])) .nil)))))) .nil) .nil) (.cons (.ife (.cmp .eq (.var 0) (.lit (.str [115, 116, 111, 114, 121]))) (.cons (.ret (.bin .add (.var 1) (.lst (.cons (.lit (.int 7)) (.cons (.lit (.str [97, 98, 10])) .nil))))) .nil) .nil) (.cons (.ife (.cmp .eq (.var 0) (.lit (.str [99, 111, 117, 110, 116]))) (.cons (.ret (.lst (.cons (.lit .non) (.cons (.lit (.bl true)) (.cons (.bin .sub (.lit (.int 0)) (.lit (.int 1))) (.cons (.lit (.str [])) (.cons (.lit (.str [49])) (.cons (.lst (.cons (.lit (.int 0)) .nil)) (.cons .dct0 (.cons (.tup .nil) (.cons (.tup (.cons (.lit (.int 1)) .nil)) .nil))))))))))) .nil) .nil) (.cons (.ife (.cmp .eq (.var 0) (.lit (.str [115, 105, 122, 101]))) (.cons (.ret (.lst (.cons (.lit .non) (.cons (.lit (.bl true)) (.cons (.bin .sub (.lit (.int 0)) (.lit (.int 1))) (.cons (.lit (.int 0)) (.cons (.lit (.str [])) (.cons (.lit (.str [49])) (.cons (.lst (.cons (.lit (.int 0)) .nil)) (.cons .dct0 (.cons (.tup .nil) (.cons (.tup (.cons (.lit (.int 1)) .nil)) .nil)))))))))))) .nil) .nil) (.cons (.ife (.cmp .eq (.var 0) (.lit (.str [109, 97, 116, 101, 100]))) (.cons (.ret (.bin .add (.var 1) (.lst (.cons (.lit (.int 7)) (.cons (.lit (.str [106])) (.cons (.lit (.str [97, 106])) (.cons (.lit (.str [106, 97])) .nil))))))) .nil) .nil) (.cons (.ife (.cmp .eq (.var 0) (.lit (.str [114, 105, 110, 103]))) (.cons (.ret (.bin .add (.var 1) (.lst (.cons (.lit (.int 7)) (.cons (.lit (.str [106])) (.cons (.lit (.str [97, 106])) (.cons (.lit (.str [])) .nil))))))) .nil) .nil) (.cons (.ife (.cmp .eq (.var 0) (.lit (.str [115, 105, 103, 110, 115]))) (.cons (.ret (.bin .add (.var 1) (.lst (.cons (.lit (.str [])) (.cons (.lit (.int 7)) (.cons (.lit (.str [98, 97])) (.cons (.lit (.str [97, 97])) (.cons (.lit (.str [97, 98, 98])) (.cons (.lit (.str [97, 66, 99])) (.cons (.lit (.str [97, 99, 98])) (.cons (.lit (.str [97, 49])) .nil))))))))))) .nil) .nil) (.cons (.ret (.bin .add (.var 1) (.lst (.cons (.lit (.int 7)) (.cons (.lit (.str [97])) (.cons (.dlit [97] (.str [98])) (.cons (.dsp (.cons (.lit (.str [97])) (.cons (.lit (.str [97])) (.cons (.lit (.str [98])) (.cons (.lit (.str [97])) .nil))))) (.cons (.dlit [97] (.str [97, 97])) (.cons (.dlit [97, 97] (.str [97, 97])) (.cons (.dsp (.cons (.lit (.str [97])) (.cons (.lit (.str [97])) (.cons (.lit (.str [98])) (.cons (.lit .non) .nil))))) (.cons (.dsp (.cons (.lit (.str [97])) (.cons (.lit (.str [97])) (.cons (.lit (.int 1)) (.cons (.lit (.int 1)) .nil))))) (.cons (.dlit [65] (.str [65])) (.cons (.dlit [] (.str [])) (.cons (.dlit [49] (.str [49])) (.cons (.dlit [32] (.str [32])) .nil))))))))))))))) .nil)))))))))
def f__law_odds : List D → List D → R D := runF ⟨fnT [], gvT []⟩ 2 b__law_odds
/-- is_signs: slots 0 value, 1 signs, 2 sign -/
def b_is_signs : Sms := (.cons (.ret (.and_ (.isi (.var 0) .str) (.one (.cmp .eq (.lc (.var 2) [2] (.nm 2) (.seq (.var 0)) (.some (.cmp .notin (.var 2) (.var 1)))) (.lst .nil))))) .nil)
def f_is_signs : List D → List D → R D := runF ⟨fnT [], gvT []⟩ 3 b_is_signs
/-- is_story: slots 0 value -/
def b_is_story : Sms := (.cons (.ret (.call 0 (.cons (.var 0) (.cons (.gv 0) .nil)))) .nil)
def f_is_story : List D → List D → R D := runF ⟨fnT [f_is_signs], gvT [(D.str [97, 98, 99, 100, 101, 102, 103, 104, 105, 106, 107, 108, 109, 110, 111, 112, 113, 114, 115, 116, 117, 118, 119, 120, 121, 122])]⟩ 1 b_is_story
/-- is_scrap: slots 0 value -/
def b_is_scrap : Sms := (.cons (.ret (.and_ (.call 0 (.cons (.var 0) .nil)) (.one (.cmp .ne (.var 0) (.lit (.str [])))))) .nil)
def f_is_scrap : List D → List D → R D := runF ⟨fnT [f_is_story], gvT []⟩ 1 b_is_scrap
/-- check_scrap: slots 0 scrap -/
def b_check_scrap : Sms := (.cons (.ife (.nt (.call 0 (.cons (.var 0) .nil))) (.cons (.rse 3 (.var 0)) .nil) .nil) .nil)
def f_check_scrap : List D → List D → R D := runF ⟨fnT [f_is_scrap], gvT []⟩ 1 b_check_scrap
/-- is_whole: slots 0 value -/
def b_is_whole : Sms := (.cons (.ret (.and_ (.isi (.var 0) .int) (.one (.nt (.isi (.var 0) .bool))))) .nil)
def f_is_whole : List D → List D → R D := runF ⟨fnT [], gvT []⟩ 1 b_is_whole
/-- is_count: slots 0 value -/
def b_is_count : Sms := (.cons (.ret (.and_ (.call 0 (.cons (.var 0) .nil)) (.one (.cmp .ge (.var 0) (.lit (.int 0)))))) .nil)
def f_is_count : List D → List D → R D := runF ⟨fnT [f_is_whole], gvT []⟩ 1 b_is_count
/-- check_number: slots 0 value -/
def b_check_number : Sms := (.cons (.ife (.nt (.call 0 (.cons (.var 0) .nil))) (.cons (.rse 1 (.var 0)) .nil) .nil) .nil)
def f_check_number : List D → List D → R D := runF ⟨fnT [f_is_count], gvT []⟩ 1 b_check_number
/-- turned_by: slots 0 scrap, 1 many, 2 at -/
def b_turned_by : Sms := (.cons (.asg (.nm 2) (.bin .mod (.var 1) (.bi .len (.cons (.var 0) .nil)))) (.cons (.ret (.bin .add (.sli (.var 0) (.some (.var 2)) .none) (.sli (.var 0) .none (.some (.var 2))))) .nil))
def f_turned_by : List D → List D → R D := runF ⟨fnT [], gvT []⟩ 3 b_turned_by
/-- ring_turned: slots 0 scrap, 1 many -/
def b_ring_turned : Sms := (.cons (.exp (.call 0 (.cons (.var 0) .nil))) (.cons (.exp (.call 1 (.cons (.var 1) .nil))) (.cons (.ret (.call 2 (.cons (.var 0) (.cons (.var 1) .nil)))) .nil)))
def f_ring_turned : List D → List D → R D := runF ⟨fnT [f_check_scrap, f_check_number, f_turned_by], gvT []⟩ 2 b_ring_turned
/-- root_size: slots 0 scrap, 1 size -/
def b_root_size : Sms := (.cons (.ret (.sub (.lc (.var 1) [1] (.nm 1) (.rng (.cons (.lit (.int 1)) (.cons (.bin .add (.bi .len (.cons (.var 0) .nil)) (.lit (.int 1))) .nil))) (.some (.cmp .eq (.call 0 (.cons (.var 0) (.cons (.var 1) .nil))) (.var 0)))) (.lit (.int 0)))) .nil)
def f_root_size : List D → List D → R D := runF ⟨fnT [f_turned_by], gvT []⟩ 2 b_root_size
/-- all_turnings: slots 0 scrap, 1 many -/
def b_all_turnings : Sms := (.cons (.ret (.bi .sorted (.cons (.lc (.call 1 (.cons (.var 0) (.cons (.var 1) .nil))) [1] (.nm 1) (.rng (.cons (.call 0 (.cons (.var 0) .nil)) .nil)) .none) .nil))) .nil)
def f_all_turnings : List D → List D → R D := runF ⟨fnT [f_root_size, f_turned_by], gvT []⟩ 2 b_all_turnings
/-- ring_turnings: slots 0 scrap -/
def b_ring_turnings : Sms := (.cons (.exp (.call 0 (.cons (.var 0) .nil))) (.cons (.ret (.call 1 (.cons (.var 0) .nil))) .nil))
def f_ring_turnings : List D → List D → R D := runF ⟨fnT [f_check_scrap, f_all_turnings], gvT []⟩ 1 b_ring_turnings
/-- least_turning: slots 0 scrap -/
def b_least_turning : Sms := (.cons (.exp (.call 0 (.cons (.var 0) .nil))) (.cons (.ret (.sub (.call 1 (.cons (.var 0) .nil)) (.lit (.int 0)))) .nil))
def f_least_turning : List D → List D → R D := runF ⟨fnT [f_check_scrap, f_all_turnings], gvT []⟩ 1 b_least_turning
/-- turns_to: slots 0 one, 1 other, 2 found, 3 many -/
def b_turns_to : Sms := (.cons (.exp (.call 0 (.cons (.var 0) .nil))) (.cons (.exp (.call 0 (.cons (.var 1) .nil))) (.cons (.asg (.nm 2) (.lc (.var 3) [3] (.nm 3) (.rng (.cons (.bi .len (.cons (.var 0) .nil)) .nil)) (.some (.cmp .eq (.call 1 (.cons (.var 0) (.cons (.var 3) .nil))) (.var 1))))) (.cons (.ret (.ife (.cmp .ne (.var 2) (.lst .nil)) (.sub (.var 2) (.lit (.int 0))) (.lit .non))) .nil))))
def f_turns_to : List D → List D → R D := runF ⟨fnT [f_check_scrap, f_turned_by], gvT []⟩ 4 b_turns_to
/-- root_of: slots 0 scrap -/
def b_root_of : Sms := (.cons (.exp (.call 0 (.cons (.var 0) .nil))) (.cons (.ret (.sli (.var 0) .none (.some (.call 1 (.cons (.var 0) .nil))))) .nil))
def f_root_of : List D → List D → R D := runF ⟨fnT [f_check_scrap, f_root_size], gvT []⟩ 1 b_root_of
/-- check_ring_size: slots 0 size -/
def b_check_ring_size : Sms := (.cons (.ife (.or_ (.nt (.call 0 (.cons (.var 0) .nil))) (.one (.cmp .lt (.var 0) (.lit (.int 1))))) (.cons (.rse 1 (.var 0)) .nil) .nil) .nil)
def f_check_ring_size : List D → List D → R D := runF ⟨fnT [f_is_count], gvT []⟩ 1 b_check_ring_size
/-- windows_round: slots 0 scrap, 1 size, 2 round_about, 3 at -/
def b_windows_round : Sms := (.cons (.asg (.nm 2) (.bin .mul (.var 0) (.bin .add (.bin .fdiv (.var 1) (.bi .len (.cons (.var 0) .nil))) (.lit (.int 2))))) (.cons (.ret (.lc (.sli (.var 2) (.some (.var 3)) (.some (.bin .add (.var 3) (.var 1)))) [3] (.nm 3) (.rng (.cons (.bi .len (.cons (.var 0) .nil)) .nil)) .none)) .nil))
def f_windows_round : List D → List D → R D := runF ⟨fnT [], gvT []⟩ 4 b_windows_round
/-- ring_windows: slots 0 scrap, 1 size -/
def b_ring_windows : Sms := (.cons (.exp (.call 0 (.cons (.var 0) .nil))) (.cons (.exp (.call 1 (.cons (.var 1) .nil))) (.cons (.ret (.call 2 (.cons (.var 0) (.cons (.var 1) .nil)))) .nil)))
def f_ring_windows : List D → List D → R D := runF ⟨fnT [f_check_scrap, f_check_ring_size, f_windows_round], gvT []⟩ 2 b_ring_windows
/-- ring_counts: slots 0 scrap, 1 size, 2 found, 3 window -/
def b_ring_counts : Sms := (.cons (.exp (.call 0 (.cons (.var 0) .nil))) (.cons (.exp (.call 1 (.cons (.var 1) .nil))) (.cons (.asgO 2 .dct0) (.cons (.for_ (.nm 3) (.seq (.call 2 (.cons (.var 0) (.cons (.var 1) .nil)))) (.cons (.putO 2 (.var 3) (.bin .add (.dgt (.bvar 2) (.var 3) (.lit (.int 0))) (.lit (.int 1)))) .nil)) (.cons (.ret (.bvar 2)) .nil)))))
def f_ring_counts : List D → List D → R D := runF ⟨fnT [f_check_scrap, f_check_ring_size, f_windows_round], gvT []⟩ 4 b_ring_counts
/-- is_least_end: slots 0 scrap, 1 at -/
def b_is_least_end : Sms := (.cons (.ret (.bi .all (.cons (.lc (.cmp .lt (.var 0) (.sli (.var 0) (.some (.var 1)) .none)) [1] (.nm 1) (.rng (.cons (.lit (.int 1)) (.cons (.bi .len (.cons (.var 0) .nil)) .nil))) .none) .nil))) .nil)
def f_is_least_end : List D → List D → R D := runF ⟨fnT [], gvT []⟩ 2 b_is_least_end
/-- is_small: slots 0 scrap -/
def b_is_small : Sms := (.cons (.exp (.call 0 (.cons (.var 0) .nil))) (.cons (.ret (.call 1 (.cons (.var 0) .nil))) .nil))
def f_is_small : List D → List D → R D := runF ⟨fnT [f_check_scrap, f_is_least_end], gvT []⟩ 1 b_is_small
/-- small_run: slots 0 rest, 1 at, 2 size -/
def b_small_run : Sms := (.cons (.asg (.tp2 (.nm 1) (.nm 2)) (.tup (.cons (.lit (.int 0)) (.cons (.lit (.int 1)) .nil)))) (.cons (.whl (.and_ (.cmp .lt (.var 2) (.bi .len (.cons (.var 0) .nil))) (.one (.cmp .le (.sub (.var 0) (.var 1)) (.sub (.var 0) (.var 2))))) (.cons (.asg (.nm 1) (.ife (.cmp .eq (.sub (.var 0) (.var 1)) (.sub (.var 0) (.var 2))) (.bin .add (.var 1) (.lit (.int 1))) (.lit (.int 0)))) (.cons (.asg (.nm 2) (.bin .add (.var 2) (.lit (.int 1)))) .nil))) (.cons (.ret (.tup (.cons (.var 2) (.cons (.bin .sub (.var 2) (.var 1)) .nil)))) .nil)))
def f_small_run : List D → List D → R D := runF ⟨fnT [], gvT []⟩ 3 b_small_run
/-- small_parts: slots 0 story, 1 parts, 2 rest, 3 turn, 4 size, 5 back -/
def b_small_parts : Sms := (.cons (.ife (.nt (.call 0 (.cons (.var 0) .nil))) (.cons (.rse 3 (.var 0)) .nil) .nil) (.cons (.parP 1 2 (.lst .nil) (.var 0)) (.cons (.whl (.cmp .ne (.var 2) (.lit (.str []))) (.cons (.asg (.tp2 (.nm 4) (.nm 5)) (.call 1 (.cons (.var 2) .nil))) (.cons (.for_ (.nm 3) (.rng (.cons (.bin .fdiv (.var 4) (.var 5)) .nil)) (.cons (.app 1 (.sli (.var 2) .none (.some (.var 5)))) (.cons (.asg (.nm 2) (.sli (.var 2) (.some (.var 5)) .none)) .nil))) .nil))) (.cons (.ret (.bvar 1)) .nil))))
def f_small_parts : List D → List D → R D := runF ⟨fnT [f_is_story, f_small_run], gvT []⟩ 6 b_small_parts
/-- divisors_of: slots 0 size, 1 part -/
def b_divisors_of : Sms := (.cons (.ret (.lc (.var 1) [1] (.nm 1) (.rng (.cons (.lit (.int 1)) (.cons (.bin .add (.var 0) (.lit (.int 1))) .nil))) (.some (.cmp .eq (.bin .mod (.var 0) (.var 1)) (.lit (.int 0)))))) .nil)
def f_divisors_of : List D → List D → R D := runF ⟨fnT [], gvT []⟩ 2 b_divisors_of
/-- power_of: slots 0 many, 1 times, 2 found, 3 turn -/
def b_power_of : Sms := (.cons (.asg (.nm 2) (.lit (.int 1))) (.cons (.for_ (.nm 3) (.rng (.cons (.var 1) .nil)) (.cons (.asg (.nm 2) (.bin .mul (.var 2) (.var 0))) .nil)) (.cons (.ret (.var 2)) .nil)))
def f_power_of : List D → List D → R D := runF ⟨fnT [], gvT []⟩ 4 b_power_of
/-- small_numbers: slots 0 many, 1 size, 2 found, 3 part, 4 less, 5 smaller -/
def b_small_numbers : Sms := (.cons (.asgO 2 .dct0) (.cons (.for_ (.nm 3) (.seq (.call 0 (.cons (.var 1) .nil))) (.cons (.asg (.nm 4) (.bi .sum (.cons (.lcD (.bin .mul (.var 5) (.sub (.bvar 2) (.var 5))) [5] (.nm 5) 2 (.some (.cmp .eq (.bin .mod (.var 3) (.var 5)) (.lit (.int 0))))) .nil))) (.cons (.putO 2 (.var 3) (.bin .fdiv (.bin .sub (.call 1 (.cons (.var 0) (.cons (.var 3) .nil))) (.var 4)) (.var 3))) .nil))) (.cons (.ret (.bvar 2)) .nil)))
def f_small_numbers : List D → List D → R D := runF ⟨fnT [f_divisors_of, f_power_of], gvT []⟩ 6 b_small_numbers
/-- rings_of: slots 0 many, 1 size, 2 found, 3 part -/
def b_rings_of : Sms := (.cons (.asg (.nm 2) (.call 0 (.cons (.var 0) (.cons (.var 1) .nil)))) (.cons (.ret (.bi .sum (.cons (.lcD (.sub (.var 2) (.var 3)) [3] (.nm 3) 2 .none) .nil))) .nil))
def f_rings_of : List D → List D → R D := runF ⟨fnT [f_small_numbers], gvT []⟩ 4 b_rings_of
/-- how_many_rings: slots 0 many, 1 size -/
def b_how_many_rings : Sms := (.cons (.exp (.call 0 (.cons (.var 0) .nil))) (.cons (.exp (.call 0 (.cons (.var 1) .nil))) (.cons (.ret (.call 1 (.cons (.var 0) (.cons (.var 1) .nil)))) .nil)))
def f_how_many_rings : List D → List D → R D := runF ⟨fnT [f_check_ring_size, f_rings_of], gvT []⟩ 2 b_how_many_rings
/-- how_many_both: slots 0 many, 1 size, 2 half, 3 even -/
def b_how_many_both : Sms := (.cons (.exp (.call 0 (.cons (.var 0) .nil))) (.cons (.exp (.call 0 (.cons (.var 1) .nil))) (.cons (.asg (.nm 2) (.bin .fdiv (.var 1) (.lit (.int 2)))) (.cons (.ife (.cmp .eq (.bin .mod (.var 1) (.lit (.int 2))) (.lit (.int 1))) (.cons (.asg (.nm 3) (.bin .mul (.lit (.int 2)) (.call 1 (.cons (.var 0) (.cons (.bin .add (.var 2) (.lit (.int 1))) .nil))))) .nil) (.cons (.asg (.nm 3) (.bin .add (.call 1 (.cons (.var 0) (.cons (.var 2) .nil))) (.call 1 (.cons (.var 0) (.cons (.bin .add (.var 2) (.lit (.int 1))) .nil))))) .nil)) (.cons (.ret (.bin .fdiv (.bin .add (.bin .mul (.lit (.int 2)) (.call 2 (.cons (.var 0) (.cons (.var 1) .nil)))) (.var 3)) (.lit (.int 4)))) .nil)))))
def f_how_many_both : List D → List D → R D := runF ⟨fnT [f_check_ring_size, f_power_of, f_rings_of], gvT []⟩ 4 b_how_many_both
/-- how_many_small: slots 0 many, 1 size -/
def b_how_many_small : Sms := (.cons (.exp (.call 0 (.cons (.var 0) .nil))) (.cons (.exp (.call 0 (.cons (.var 1) .nil))) (.cons (.ret (.sub (.call 1 (.cons (.var 0) (.cons (.var 1) .nil))) (.var 1))) .nil)))
def f_how_many_small : List D → List D → R D := runF ⟨fnT [f_check_ring_size, f_small_numbers], gvT []⟩ 2 b_how_many_small
/-- is_sign: slots 0 value -/
def b_is_sign : Sms := (.cons (.ret (.and_ (.call 0 (.cons (.var 0) .nil)) (.one (.cmp .eq (.bi .len (.cons (.var 0) .nil)) (.lit (.int 1)))))) .nil)
def f_is_sign : List D → List D → R D := runF ⟨fnT [f_is_story], gvT []⟩ 1 b_is_sign
/-- are_mates: slots 0 value, 1 sign -/
def b_are_mates : Sms := (.cons (.ife (.or_ (.nt (.isi (.var 0) .dct)) (.one (.cmp .eq (.bi .len (.cons (.var 0) .nil)) (.lit (.int 0))))) (.cons (.ret (.lit (.bl false))) .nil) .nil) (.cons (.ife (.nt (.bi .all (.cons (.lcD (.and_ (.call 0 (.cons (.var 1) .nil)) (.one (.call 0 (.cons (.sub (.var 0) (.var 1)) .nil)))) [1] (.nm 1) 0 .none) .nil))) (.cons (.ret (.lit (.bl false))) .nil) .nil) (.cons (.ret (.bi .all (.cons (.lcD (.and_ (.cmp .isin (.sub (.var 0) (.var 1)) (.var 0)) (.one (.cmp .eq (.sub (.var 0) (.sub (.var 0) (.var 1))) (.var 1)))) [1] (.nm 1) 0 .none) .nil))) .nil)))
def f_are_mates : List D → List D → R D := runF ⟨fnT [f_is_sign], gvT []⟩ 2 b_are_mates
/-- check_mates: slots 0 mates -/
def b_check_mates : Sms := (.cons (.ife (.nt (.call 0 (.cons (.var 0) .nil))) (.cons (.rse 2 (.var 0)) .nil) .nil) .nil)
def f_check_mates : List D → List D → R D := runF ⟨fnT [f_are_mates], gvT []⟩ 1 b_check_mates
/-- check_mated: slots 0 mates, 1 story, 2 sign -/
def b_check_mated : Sms := (.cons (.exp (.call 0 (.cons (.var 0) .nil))) (.cons (.ife (.or_ (.nt (.call 1 (.cons (.var 1) .nil))) (.one (.nt (.bi .all (.cons (.lc (.cmp .isin (.var 2) (.var 0)) [2] (.nm 2) (.seq (.var 1)) .none) .nil))))) (.cons (.rse 3 (.var 1)) .nil) .nil) .nil))
def f_check_mated : List D → List D → R D := runF ⟨fnT [f_check_mates, f_is_story], gvT []⟩ 3 b_check_mated
/-- mirror_in: slots 0 mates, 1 story, 2 sign -/
def b_mirror_in : Sms := (.cons (.ret (.mt .join (.lit (.str [])) (.cons (.lc (.sub (.var 0) (.var 2)) [2] (.nm 2) (.rvs (.var 1)) .none) .nil))) .nil)
def f_mirror_in : List D → List D → R D := runF ⟨fnT [], gvT []⟩ 3 b_mirror_in
/-- mirror_of: slots 0 mates, 1 story -/
def b_mirror_of : Sms := (.cons (.exp (.call 0 (.cons (.var 0) (.cons (.var 1) .nil)))) (.cons (.ret (.call 1 (.cons (.var 0) (.cons (.var 1) .nil)))) .nil))
def f_mirror_of : List D → List D → R D := runF ⟨fnT [f_check_mated, f_mirror_in], gvT []⟩ 2 b_mirror_of
/-- is_even: slots 0 mates, 1 story -/
def b_is_even : Sms := (.cons (.exp (.call 0 (.cons (.var 0) (.cons (.var 1) .nil)))) (.cons (.ret (.cmp .eq (.call 1 (.cons (.var 0) (.cons (.var 1) .nil))) (.var 1))) .nil))
def f_is_even : List D → List D → R D := runF ⟨fnT [f_check_mated, f_mirror_in], gvT []⟩ 2 b_is_even
/-- check_ring: slots 0 mates, 1 scrap -/
def b_check_ring : Sms := (.cons (.exp (.call 0 (.cons (.var 0) (.cons (.var 1) .nil)))) (.cons (.exp (.call 1 (.cons (.var 1) .nil))) .nil))
def f_check_ring : List D → List D → R D := runF ⟨fnT [f_check_mated, f_check_scrap], gvT []⟩ 2 b_check_ring
/-- is_even_ring: slots 0 mates, 1 scrap -/
def b_is_even_ring : Sms := (.cons (.exp (.call 0 (.cons (.var 0) (.cons (.var 1) .nil)))) (.cons (.ret (.cmp .isin (.call 1 (.cons (.var 0) (.cons (.var 1) .nil))) (.call 2 (.cons (.var 1) .nil)))) .nil))
def f_is_even_ring : List D → List D → R D := runF ⟨fnT [f_check_ring, f_mirror_in, f_all_turnings], gvT []⟩ 2 b_is_even_ring
/-- widest_at: slots 0 mates, 1 story, 2 start, 3 end -/
def b_widest_at : Sms := (.cons (.whl (.and_ (.cmp .gt (.var 2) (.lit (.int 0))) (.and_ (.cmp .lt (.var 3) (.bi .len (.cons (.var 1) .nil))) (.one (.cmp .eq (.sub (.var 0) (.sub (.var 1) (.bin .sub (.var 2) (.lit (.int 1))))) (.sub (.var 1) (.var 3)))))) (.cons (.par [2, 3] (.cons (.bin .sub (.var 2) (.lit (.int 1))) (.cons (.bin .add (.var 3) (.lit (.int 1))) .nil))) .nil)) (.cons (.ret (.tup (.cons (.var 2) (.cons (.var 3) .nil)))) .nil))
def f_widest_at : List D → List D → R D := runF ⟨fnT [], gvT []⟩ 4 b_widest_at
/-- even_stretches: slots 0 mates, 1 story, 2 found, 3 at, 4 sign, 5 stretch -/
def b_even_stretches : Sms := (.cons (.exp (.call 0 (.cons (.var 0) (.cons (.var 1) .nil)))) (.cons (.asgO 2 (.lst .nil)) (.cons (.for_ (.tp2 (.nm 3) (.nm 4)) (.enm (.var 1)) (.cons (.app 2 (.call 1 (.cons (.var 0) (.cons (.var 1) (.cons (.var 3) (.cons (.var 3) .nil)))))) (.cons (.ife (.cmp .eq (.sub (.var 0) (.var 4)) (.var 4)) (.cons (.app 2 (.call 1 (.cons (.var 0) (.cons (.var 1) (.cons (.var 3) (.cons (.bin .add (.var 3) (.lit (.int 1))) .nil)))))) .nil) .nil) .nil))) (.cons (.frz 2) (.cons (.ret (.bi .sorted (.cons (.lc (.var 5) [5] (.nm 5) (.seq (.var 2)) (.some (.cmp .lt (.sub (.var 5) (.lit (.int 0))) (.sub (.var 5) (.lit (.int 1)))))) .nil))) .nil)))))
def f_even_stretches : List D → List D → R D := runF ⟨fnT [f_check_mated, f_widest_at], gvT []⟩ 6 b_even_stretches
/-- least_reading: slots 0 mates, 1 scrap -/
def b_least_reading : Sms := (.cons (.exp (.call 0 (.cons (.var 0) (.cons (.var 1) .nil)))) (.cons (.ret (.bi .min (.cons (.bin .add (.call 1 (.cons (.var 1) .nil)) (.call 1 (.cons (.call 2 (.cons (.var 0) (.cons (.var 1) .nil))) .nil))) .nil))) .nil))
def f_least_reading : List D → List D → R D := runF ⟨fnT [f_check_ring, f_all_turnings, f_mirror_in], gvT []⟩ 2 b_least_reading
/-- check_full_signs: slots 0 signs, 1 at -/
def b_check_full_signs : Sms := (.cons (.ife (.or_ (.nt (.call 0 (.cons (.var 0) .nil))) (.one (.cmp .ne (.lc (.var 1) [1] (.nm 1) (.rng (.cons (.lit (.int 1)) (.cons (.bi .len (.cons (.var 0) .nil)) .nil))) (.some (.cmp .ge (.sub (.var 0) (.bin .sub (.var 1) (.lit (.int 1)))) (.sub (.var 0) (.var 1))))) (.lst .nil)))) (.cons (.rse 2 (.var 0)) .nil) .nil) .nil)
def f_check_full_signs : List D → List D → R D := runF ⟨fnT [f_is_scrap], gvT []⟩ 2 b_check_full_signs
/-- next_small: slots 0 signs, 1 scrap, 2 size, 3 longer -/
def b_next_small : Sms := (.cons (.asg (.nm 3) (.sli (.bin .mul (.var 1) (.bin .add (.bin .fdiv (.var 2) (.bi .len (.cons (.var 1) .nil))) (.lit (.int 1)))) .none (.some (.var 2)))) (.cons (.whl (.and_ (.cmp .ne (.var 3) (.lit (.str []))) (.one (.cmp .eq (.sub (.var 3) (.neg (.lit (.int 1)))) (.sub (.var 0) (.neg (.lit (.int 1))))))) (.cons (.asg (.nm 3) (.sli (.var 3) .none (.some (.neg (.lit (.int 1)))))) .nil)) (.cons (.ret (.ife (.cmp .eq (.var 3) (.lit (.str []))) (.lit .non) (.bin .add (.sli (.var 3) .none (.some (.neg (.lit (.int 1))))) (.sub (.var 0) (.bin .add (.mt .index (.var 0) (.cons (.sub (.var 3) (.neg (.lit (.int 1)))) .nil)) (.lit (.int 1))))))) .nil)))
def f_next_small : List D → List D → R D := runF ⟨fnT [], gvT []⟩ 4 b_next_small
/-- full_ring: slots 0 signs, 1 size, 2 parts, 3 scrap -/
def b_full_ring : Sms := (.cons (.exp (.call 0 (.cons (.var 0) .nil))) (.cons (.exp (.call 1 (.cons (.var 1) .nil))) (.cons (.parP 2 3 (.lst .nil) (.sub (.var 0) (.lit (.int 0)))) (.cons (.whl (.cmp .isnot (.var 3) (.lit .non)) (.cons (.ife (.cmp .eq (.bin .mod (.var 1) (.bi .len (.cons (.var 3) .nil))) (.lit (.int 0))) (.cons (.app 2 (.var 3)) .nil) .nil) (.cons (.asg (.nm 3) (.call 2 (.cons (.var 0) (.cons (.var 3) (.cons (.var 1) .nil))))) .nil))) (.cons (.ret (.mt .join (.lit (.str [])) (.cons (.bvar 2) .nil))) .nil)))))
def f_full_ring : List D → List D → R D := runF ⟨fnT [f_check_full_signs, f_check_ring_size, f_next_small], gvT []⟩ 4 b_full_ring
/-- is_full_ring: slots 0 signs, 1 size, 2 value, 3 window, 4 sign -/
def b_is_full_ring : Sms := (.cons (.exp (.call 0 (.cons (.var 0) .nil))) (.cons (.exp (.call 1 (.cons (.var 1) .nil))) (.cons (.ife (.or_ (.nt (.call 2 (.cons (.var 2) .nil))) (.one (.nt (.bi .all (.cons (.lc (.cmp .isin (.var 4) (.var 0)) [4] (.nm 4) (.seq (.var 2)) .none) .nil))))) (.cons (.ret (.lit (.bl false))) .nil) .nil) (.cons (.ife (.cmp .ne (.bi .len (.cons (.var 2) .nil)) (.call 3 (.cons (.bi .len (.cons (.var 0) .nil)) (.cons (.var 1) .nil)))) (.cons (.ret (.lit (.bl false))) .nil) .nil) (.cons (.ret (.cmp .eq (.bi .len (.cons .nev .nil)) (.bi .len (.cons (.var 2) .nil)))) .nil)))))
def f_is_full_ring : List D → List D → R D := runF ⟨fnT [f_check_full_signs, f_check_ring_size, f_is_scrap, f_power_of], gvT []⟩ 5 b_is_full_ring
/-- how_many_full: slots 0 signs, 1 size, 2 orders, 3 many, 4 found, 5 turn -/
def b_how_many_full : Sms := (.cons (.exp (.call 0 (.cons (.var 0) .nil))) (.cons (.exp (.call 1 (.cons (.var 1) .nil))) (.cons (.asg (.nm 2) (.lit (.int 1))) (.cons (.for_ (.nm 3) (.rng (.cons (.lit (.int 1)) (.cons (.bin .add (.bi .len (.cons (.var 0) .nil)) (.lit (.int 1))) .nil))) (.cons (.asg (.nm 2) (.bin .mul (.var 2) (.var 3))) .nil)) (.cons (.asg (.nm 4) (.lit (.int 1))) (.cons (.for_ (.nm 5) (.rng (.cons (.call 2 (.cons (.bi .len (.cons (.var 0) .nil)) (.cons (.bin .sub (.var 1) (.lit (.int 1))) .nil))) .nil)) (.cons (.asg (.nm 4) (.bin .mul (.var 4) (.var 2))) .nil)) (.cons (.ret (.bin .fdiv (.var 4) (.call 2 (.cons (.bi .len (.cons (.var 0) .nil)) (.cons (.var 1) .nil))))) .nil)))))))
def f_how_many_full : List D → List D → R D := runF ⟨fnT [f_check_full_signs, f_check_ring_size, f_power_of], gvT []⟩ 6 b_how_many_full
/-- _law_further: slots 0 door, 1 mates, 2 other -/
def b__law_further : Sms := (.cons (.ife (.cmp .eq (.var 0) (.lit (.int 17))) (.cons (.ret (.call 0 (.cons (.var 2) (.cons (.lit .non) .nil)))) .nil) .nil) (.cons (.ife (.cmp .eq (.var 0) (.lit (.int 18))) (.cons (.ret (.call 0 (.cons (.lit (.int 3)) (.cons (.var 2) .nil)))) .nil) .nil) (.cons (.ife (.cmp .eq (.var 0) (.lit (.int 19))) (.cons (.ret (.call 1 (.cons (.var 2) (.cons (.lit .non) .nil)))) .nil) .nil) (.cons (.ife (.cmp .eq (.var 0) (.lit (.int 20))) (.cons (.ret (.call 1 (.cons (.var 1) (.cons (.var 2) .nil)))) .nil) .nil) (.cons (.ife (.cmp .eq (.var 0) (.lit (.int 21))) (.cons (.ret (.call 2 (.cons (.var 2) (.cons (.lit .non) .nil)))) .nil) .nil) (.cons (.ife (.cmp .eq (.var 0) (.lit (.int 22))) (.cons (.ret (.call 2 (.cons (.var 1) (.cons (.var 2) .nil)))) .nil) .nil) (.cons (.ife (.cmp .eq (.var 0) (.lit (.int 23))) (.cons (.ret (.call 3 (.cons (.var 2) (.cons (.lit .non) .nil)))) .nil) .nil) (.cons (.ife (.cmp .eq (.var 0) (.lit (.int 24))) (.cons (.ret (.call 3 (.cons (.var 1) (.cons (.var 2) .nil)))) .nil) .nil) (.cons (.ife (.cmp .eq (.var 0) (.lit (.int 25))) (.cons (.ret (.call 4 (.cons (.var 2) (.cons (.lit .non) .nil)))) .nil) .nil) (.cons (.ife (.cmp .eq (.var 0) (.lit (.int 26))) (.cons (.ret (.call 4 (.cons (.var 1) (.cons (.var 2) .nil)))) .nil) .nil) (.cons (.ife (.cmp .eq (.var 0) (.lit (.int 27))) (.cons (.ret (.call 5 (.cons (.var 2) (.cons (.lit .non) .nil)))) .nil) .nil) (.cons (.ife (.cmp .eq (.var 0) (.lit (.int 28))) (.cons (.ret (.call 5 (.cons (.var 1) (.cons (.var 2) .nil)))) .nil) .nil) (.cons (.ife (.cmp .eq (.var 0) (.lit (.int 29))) (.cons (.ret (.call 6 (.cons (.var 2) (.cons (.lit .non) .nil)))) .nil) .nil) (.cons (.ife (.cmp .eq (.var 0) (.lit (.int 30))) (.cons (.ret (.call 6 (.cons (.lit (.str [97, 98])) (.cons (.var 2) .nil)))) .nil) .nil) (.cons (.ife (.cmp .eq (.var 0) (.lit (.int 31))) (.cons (.ret (.call 7 (.cons (.var 2) (.cons (.lit .non) (.cons (.lit .non) .nil))))) .nil) .nil) (.cons (.ife (.cmp .eq (.var 0) (.lit (.int 32))) (.cons (.ret (.call 7 (.cons (.lit (.str [97, 98])) (.cons (.var 2) (.cons (.lit .non) .nil))))) .nil) .nil) (.cons (.ret (.ife (.cmp .eq (.var 0) (.lit (.int 33))) (.call 8 (.cons (.var 2) (.cons (.lit .non) .nil))) (.call 8 (.cons (.lit (.str [97, 98])) (.cons (.var 2) .nil))))) .nil)))))))))))))))))
def f__law_further : List D → List D → R D := runF ⟨fnT [f_how_many_small, f_mirror_of, f_is_even, f_is_even_ring, f_even_stretches, f_least_reading, f_full_ring, f_is_full_ring, f_how_many_full], gvT []⟩ 3 b__law_further
/-- _law_call: slots 0 door, 1 mates, 2 other -/
def b__law_call : Sms := (.cons (.ife (.cmp .eq (.var 0) (.lit (.int 0))) (.cons (.ret (.call 0 (.cons (.var 2) (.cons (.lit .non) .nil)))) .nil) .nil) (.cons (.ife (.cmp .eq (.var 0) (.lit (.int 1))) (.cons (.ret (.call 0 (.cons (.lit (.str [97, 98])) (.cons (.var 2) .nil)))) .nil) .nil) (.cons (.ife (.cmp .eq (.var 0) (.lit (.int 2))) (.cons (.ret (.call 1 (.cons (.var 2) .nil))) .nil) .nil) (.cons (.ife (.cmp .eq (.var 0) (.lit (.int 3))) (.cons (.ret (.call 2 (.cons (.var 2) .nil))) .nil) .nil) (.cons (.ife (.cmp .eq (.var 0) (.lit (.int 4))) (.cons (.ret (.call 3 (.cons (.var 2) (.cons (.lit .non) .nil)))) .nil) .nil) (.cons (.ife (.cmp .eq (.var 0) (.lit (.int 5))) (.cons (.ret (.call 3 (.cons (.lit (.str [97, 98])) (.cons (.var 2) .nil)))) .nil) .nil) (.cons (.ife (.cmp .eq (.var 0) (.lit (.int 6))) (.cons (.ret (.call 4 (.cons (.var 2) .nil))) .nil) .nil) (.cons (.ife (.cmp .eq (.var 0) (.lit (.int 7))) (.cons (.ret (.call 5 (.cons (.var 2) (.cons (.lit .non) .nil)))) .nil) .nil) (.cons (.ife (.cmp .eq (.var 0) (.lit (.int 8))) (.cons (.ret (.call 5 (.cons (.lit (.str [97, 98])) (.cons (.var 2) .nil)))) .nil) .nil) (.cons (.ife (.cmp .eq (.var 0) (.lit (.int 9))) (.cons (.ret (.call 6 (.cons (.var 2) (.cons (.lit .non) .nil)))) .nil) .nil) (.cons (.ife (.cmp .eq (.var 0) (.lit (.int 10))) (.cons (.ret (.call 6 (.cons (.lit (.str [97, 98])) (.cons (.var 2) .nil)))) .nil) .nil) (.cons (.ife (.cmp .eq (.var 0) (.lit (.int 11))) (.cons (.ret (.call 7 (.cons (.var 2) .nil))) .nil) .nil) (.cons (.ife (.cmp .eq (.var 0) (.lit (.int 12))) (.cons (.ret (.call 8 (.cons (.var 2) .nil))) .nil) .nil) (.cons (.ife (.cmp .eq (.var 0) (.lit (.int 13))) (.cons (.ret (.call 9 (.cons (.var 2) (.cons (.lit .non) .nil)))) .nil) .nil) (.cons (.ife (.cmp .eq (.var 0) (.lit (.int 14))) (.cons (.ret (.call 9 (.cons (.lit (.int 2)) (.cons (.var 2) .nil)))) .nil) .nil) (.cons (.ife (.cmp .eq (.var 0) (.lit (.int 15))) (.cons (.ret (.call 10 (.cons (.var 2) (.cons (.lit .non) .nil)))) .nil) .nil) (.cons (.ife (.cmp .eq (.var 0) (.lit (.int 16))) (.cons (.ret (.call 10 (.cons (.lit (.int 2)) (.cons (.var 2) .nil)))) .nil) .nil) (.cons (.ret (.call 11 (.cons (.var 0) (.cons (.var 1) (.cons (.var 2) .nil))))) .nil))))))))))))))))))
def f__law_call : List D → List D → R D := runF ⟨fnT [f_ring_turned, f_ring_turnings, f_least_turning, f_turns_to, f_root_of, f_ring_windows, f_ring_counts, f_is_small, f_small_parts, f_how_many_rings, f_how_many_both, f__law_further], gvT []⟩ 3 b__law_call
/-- _law_caught: slots 0 door, 1 mates, 2 other, 3 caught, 4 shown, 5 error -/
def b__law_caught : Sms := (.cons (.par [3, 4] (.cons (.lit .non) (.cons (.bi .repr (.cons (.var 2) .nil)) .nil))) (.cons (.tryA (.cons (.exp (.call 0 (.cons (.var 0) (.cons (.var 1) (.cons (.var 2) .nil))))) .nil) 0 3 5) (.cons (.ife (.or_ (.cmp .ne (.bi .repr (.cons (.var 2) .nil)) (.var 4)) (.one (.cmp .is (.var 3) (.lit .non)))) (.cons (.ret (.lit .non)) .nil) .nil) (.cons (.ret (.lst (.cons (.isx (.var 3) 3) (.cons (.isx (.var 3) 1) (.cons (.isx (.var 3) 2) (.cons (.bi .repr (.cons (.xval (.var 3)) .nil)) .nil)))))) .nil))))
def f__law_caught : List D → List D → R D := runF ⟨fnT [f__law_call], gvT []⟩ 6 b__law_caught
/-- law: slots 0 script, 1 generator, 2 mates, 3 kinds, 4 door, 5 kind, 6 odd, 7 good, 8 due -/
def b_law : Sms := (.cons (.asg (.nm 1) (.call 0 (.cons (.var 0) (.cons (.lit (.int 0)) .nil)))) (.cons (.asg (.nm 2) (.dsp (.cons (.lit (.str [116])) (.cons (.lit (.str [97])) (.cons (.lit (.str [97])) (.cons (.lit (.str [116])) (.cons (.lit (.str [99])) (.cons (.lit (.str [99])) .nil)))))))) (.cons (.asg (.nm 3) (.lst (.cons (.lit (.str [115, 99, 114, 97, 112])) (.cons (.lit (.str [99, 111, 117, 110, 116])) (.cons (.lit (.str [115, 99, 114, 97, 112])) (.cons (.lit (.str [115, 99, 114, 97, 112])) (.cons (.lit (.str [115, 99, 114, 97, 112])) (.cons (.lit (.str [115, 99, 114, 97, 112])) (.cons (.lit (.str [115, 99, 114, 97, 112])) (.cons (.lit (.str [115, 99, 114, 97, 112])) (.cons (.lit (.str [115, 105, 122, 101])) (.cons (.lit (.str [115, 99, 114, 97, 112])) (.cons (.lit (.str [115, 105, 122, 101])) (.cons (.lit (.str [115, 99, 114, 97, 112])) (.cons (.lit (.str [115, 116, 111, 114, 121])) (.cons (.lit (.str [115, 105, 122, 101])) (.cons (.lit (.str [115, 105, 122, 101])) (.cons (.lit (.str [115, 105, 122, 101])) (.cons (.lit (.str [115, 105, 122, 101])) (.cons (.lit (.str [115, 105, 122, 101])) (.cons (.lit (.str [115, 105, 122, 101])) .nil))))))))))))))))))))) (.cons (.asg (.nm 3) (.bin .add (.var 3) (.lst (.cons (.lit (.str [109, 97, 116, 101, 115])) (.cons (.lit (.str [109, 97, 116, 101, 100])) (.cons (.lit (.str [109, 97, 116, 101, 115])) (.cons (.lit (.str [109, 97, 116, 101, 100])) (.cons (.lit (.str [109, 97, 116, 101, 115])) (.cons (.lit (.str [114, 105, 110, 103])) (.cons (.lit (.str [109, 97, 116, 101, 115])) (.cons (.lit (.str [109, 97, 116, 101, 100])) (.cons (.lit (.str [109, 97, 116, 101, 115])) (.cons (.lit (.str [114, 105, 110, 103])) (.cons (.lit (.str [115, 105, 103, 110, 115])) (.cons (.lit (.str [115, 105, 122, 101])) (.cons (.lit (.str [115, 105, 103, 110, 115])) (.cons (.lit (.str [115, 105, 122, 101])) (.cons (.lit (.str [115, 105, 103, 110, 115])) (.cons (.lit (.str [115, 105, 122, 101])) .nil))))))))))))))))))) (.cons (.for_ (.nm 4) (.seq (.call 1 (.cons (.var 1) (.cons (.lrg (.cons (.lit (.int 35)) .nil)) .nil)))) (.cons (.asg (.nm 5) (.sub (.var 3) (.var 4))) (.cons (.for_ (.nm 6) (.seq (.call 2 (.cons (.var 5) .nil))) (.cons (.asg (.nm 8) (.lst (.cons (.cmp .isin (.var 5) (.lst (.cons (.lit (.str [115, 99, 114, 97, 112])) (.cons (.lit (.str [115, 116, 111, 114, 121])) (.cons (.lit (.str [109, 97, 116, 101, 100])) (.cons (.lit (.str [114, 105, 110, 103])) .nil)))))) (.cons (.cmp .isin (.var 5) (.lst (.cons (.lit (.str [99, 111, 117, 110, 116])) (.cons (.lit (.str [115, 105, 122, 101])) .nil)))) (.cons (.cmp .isin (.var 5) (.lst (.cons (.lit (.str [109, 97, 116, 101, 115])) (.cons (.lit (.str [115, 105, 103, 110, 115])) .nil)))) (.cons (.bi .repr (.cons (.var 6) .nil)) .nil)))))) (.cons (.ife (.cmp .ne (.call 3 (.cons (.var 4) (.cons (.var 2) (.cons (.var 6) .nil)))) (.var 8)) (.cons (.ret (.lit (.bl false))) .nil) .nil) .nil))) .nil))) (.cons (.for_ (.tp2 (.nm 4) (.nm 7)) (.seq (.lst (.cons (.tup (.cons (.lit (.int 1)) (.cons (.lit (.int 0)) .nil))) (.cons (.tup (.cons (.lit (.int 5)) (.cons (.lit (.str [99])) .nil))) (.cons (.tup (.cons (.lit (.int 8)) (.cons (.lit (.int 1)) .nil))) (.cons (.tup (.cons (.lit (.int 12)) (.cons (.lit (.str [])) .nil))) (.cons (.tup (.cons (.lit (.int 14)) (.cons (.lit (.int 1)) .nil))) (.cons (.tup (.cons (.lit (.int 20)) (.cons (.lit (.str [])) .nil))) (.cons (.tup (.cons (.lit (.int 22)) (.cons (.lit (.str [99, 97, 116])) .nil))) (.cons (.tup (.cons (.lit (.int 26)) (.cons (.lit (.str [])) .nil))) (.cons (.tup (.cons (.lit (.int 28)) (.cons (.lit (.str [99])) .nil))) (.cons (.tup (.cons (.lit (.int 30)) (.cons (.lit (.int 1)) .nil))) (.cons (.tup (.cons (.lit (.int 34)) (.cons (.lit (.int 2)) .nil))) .nil))))))))))))) (.cons (.ife (.cmp .isnot (.call 3 (.cons (.var 4) (.cons (.var 2) (.cons (.var 7) .nil)))) (.lit .non)) (.cons (.ret (.lit (.bl false))) .nil) .nil) .nil)) (.cons (.exp (.call 4 (.cons (.lit (.str [97, 98])) (.cons (.lit (.int 31)) .nil)))) (.cons (.exp (.call 5 (.cons (.lit (.int 2)) (.cons (.lit (.int 41)) .nil)))) (.cons (.exp (.call 6 (.cons (.lit (.int 2)) (.cons (.lit (.int 41)) .nil)))) (.cons (.exp (.call 7 (.cons (.lit (.int 2)) (.cons (.lit (.int 41)) .nil)))) (.cons (.ret (.cmp .eq (.var 2) (.dsp (.cons (.lit (.str [116])) (.cons (.lit (.str [97])) (.cons (.lit (.str [97])) (.cons (.lit (.str [116])) (.cons (.lit (.str [99])) (.cons (.lit (.str [99])) .nil))))))))) .nil)))))))))))
def f_law : List D → List D → R D := runF ⟨fnT [f__law_generator, f__law_drawn_order, f__law_odds, f__law_caught, f_ring_windows, f_how_many_rings, f_how_many_both, f_how_many_small], gvT []⟩ 9 b_law
end K92

namespace K92
open PV
theorem pu__law_cell : ∀ ds, Pu (f__law_cell ds) := pu_run (by decide +kernel) pu_nil
theorem pu__law_hash : ∀ ds, Pu (f__law_hash ds) := pu_run (by decide +kernel) pu_nil
theorem pu__law_odds : ∀ ds, Pu (f__law_odds ds) := pu_run (by decide +kernel) pu_nil
theorem pu_is_signs : ∀ ds, Pu (f_is_signs ds) := pu_run (by decide +kernel) pu_nil
theorem pu_is_story : ∀ ds, Pu (f_is_story ds) := pu_run (by decide +kernel) (pu_cons pu_is_signs pu_nil)
theorem pu_is_scrap : ∀ ds, Pu (f_is_scrap ds) := pu_run (by decide +kernel) (pu_cons pu_is_story pu_nil)
theorem pu_check_scrap : ∀ ds, Pu (f_check_scrap ds) := pu_run (by decide +kernel) (pu_cons pu_is_scrap pu_nil)
theorem pu_is_whole : ∀ ds, Pu (f_is_whole ds) := pu_run (by decide +kernel) pu_nil
theorem pu_is_count : ∀ ds, Pu (f_is_count ds) := pu_run (by decide +kernel) (pu_cons pu_is_whole pu_nil)
theorem pu_check_number : ∀ ds, Pu (f_check_number ds) := pu_run (by decide +kernel) (pu_cons pu_is_count pu_nil)
theorem pu_turned_by : ∀ ds, Pu (f_turned_by ds) := pu_run (by decide +kernel) pu_nil
theorem pu_ring_turned : ∀ ds, Pu (f_ring_turned ds) := pu_run (by decide +kernel) (pu_cons pu_check_scrap (pu_cons pu_check_number (pu_cons pu_turned_by pu_nil)))
theorem pu_root_size : ∀ ds, Pu (f_root_size ds) := pu_run (by decide +kernel) (pu_cons pu_turned_by pu_nil)
theorem pu_all_turnings : ∀ ds, Pu (f_all_turnings ds) := pu_run (by decide +kernel) (pu_cons pu_root_size (pu_cons pu_turned_by pu_nil))
theorem pu_ring_turnings : ∀ ds, Pu (f_ring_turnings ds) := pu_run (by decide +kernel) (pu_cons pu_check_scrap (pu_cons pu_all_turnings pu_nil))
theorem pu_least_turning : ∀ ds, Pu (f_least_turning ds) := pu_run (by decide +kernel) (pu_cons pu_check_scrap (pu_cons pu_all_turnings pu_nil))
theorem pu_turns_to : ∀ ds, Pu (f_turns_to ds) := pu_run (by decide +kernel) (pu_cons pu_check_scrap (pu_cons pu_turned_by pu_nil))
theorem pu_root_of : ∀ ds, Pu (f_root_of ds) := pu_run (by decide +kernel) (pu_cons pu_check_scrap (pu_cons pu_root_size pu_nil))
theorem pu_check_ring_size : ∀ ds, Pu (f_check_ring_size ds) := pu_run (by decide +kernel) (pu_cons pu_is_count pu_nil)
theorem pu_windows_round : ∀ ds, Pu (f_windows_round ds) := pu_run (by decide +kernel) pu_nil
theorem pu_ring_windows : ∀ ds, Pu (f_ring_windows ds) := pu_run (by decide +kernel) (pu_cons pu_check_scrap (pu_cons pu_check_ring_size (pu_cons pu_windows_round pu_nil)))
theorem pu_ring_counts : ∀ ds, Pu (f_ring_counts ds) := pu_run (by decide +kernel) (pu_cons pu_check_scrap (pu_cons pu_check_ring_size (pu_cons pu_windows_round pu_nil)))
theorem pu_is_least_end : ∀ ds, Pu (f_is_least_end ds) := pu_run (by decide +kernel) pu_nil
theorem pu_is_small : ∀ ds, Pu (f_is_small ds) := pu_run (by decide +kernel) (pu_cons pu_check_scrap (pu_cons pu_is_least_end pu_nil))
theorem pu_small_run : ∀ ds, Pu (f_small_run ds) := pu_run (by decide +kernel) pu_nil
theorem pu_small_parts : ∀ ds, Pu (f_small_parts ds) := pu_run (by decide +kernel) (pu_cons pu_is_story (pu_cons pu_small_run pu_nil))
theorem pu_divisors_of : ∀ ds, Pu (f_divisors_of ds) := pu_run (by decide +kernel) pu_nil
theorem pu_power_of : ∀ ds, Pu (f_power_of ds) := pu_run (by decide +kernel) pu_nil
theorem pu_small_numbers : ∀ ds, Pu (f_small_numbers ds) := pu_run (by decide +kernel) (pu_cons pu_divisors_of (pu_cons pu_power_of pu_nil))
theorem pu_rings_of : ∀ ds, Pu (f_rings_of ds) := pu_run (by decide +kernel) (pu_cons pu_small_numbers pu_nil)
theorem pu_how_many_rings : ∀ ds, Pu (f_how_many_rings ds) := pu_run (by decide +kernel) (pu_cons pu_check_ring_size (pu_cons pu_rings_of pu_nil))
theorem pu_how_many_both : ∀ ds, Pu (f_how_many_both ds) := pu_run (by decide +kernel) (pu_cons pu_check_ring_size (pu_cons pu_power_of (pu_cons pu_rings_of pu_nil)))
theorem pu_how_many_small : ∀ ds, Pu (f_how_many_small ds) := pu_run (by decide +kernel) (pu_cons pu_check_ring_size (pu_cons pu_small_numbers pu_nil))
theorem pu_is_sign : ∀ ds, Pu (f_is_sign ds) := pu_run (by decide +kernel) (pu_cons pu_is_story pu_nil)
theorem pu_are_mates : ∀ ds, Pu (f_are_mates ds) := pu_run (by decide +kernel) (pu_cons pu_is_sign pu_nil)
theorem pu_check_mates : ∀ ds, Pu (f_check_mates ds) := pu_run (by decide +kernel) (pu_cons pu_are_mates pu_nil)
theorem pu_check_mated : ∀ ds, Pu (f_check_mated ds) := pu_run (by decide +kernel) (pu_cons pu_check_mates (pu_cons pu_is_story pu_nil))
theorem pu_mirror_in : ∀ ds, Pu (f_mirror_in ds) := pu_run (by decide +kernel) pu_nil
theorem pu_mirror_of : ∀ ds, Pu (f_mirror_of ds) := pu_run (by decide +kernel) (pu_cons pu_check_mated (pu_cons pu_mirror_in pu_nil))
theorem pu_is_even : ∀ ds, Pu (f_is_even ds) := pu_run (by decide +kernel) (pu_cons pu_check_mated (pu_cons pu_mirror_in pu_nil))
theorem pu_check_ring : ∀ ds, Pu (f_check_ring ds) := pu_run (by decide +kernel) (pu_cons pu_check_mated (pu_cons pu_check_scrap pu_nil))
theorem pu_is_even_ring : ∀ ds, Pu (f_is_even_ring ds) := pu_run (by decide +kernel) (pu_cons pu_check_ring (pu_cons pu_mirror_in (pu_cons pu_all_turnings pu_nil)))
theorem pu_widest_at : ∀ ds, Pu (f_widest_at ds) := pu_run (by decide +kernel) pu_nil
theorem pu_even_stretches : ∀ ds, Pu (f_even_stretches ds) := pu_run (by decide +kernel) (pu_cons pu_check_mated (pu_cons pu_widest_at pu_nil))
theorem pu_least_reading : ∀ ds, Pu (f_least_reading ds) := pu_run (by decide +kernel) (pu_cons pu_check_ring (pu_cons pu_all_turnings (pu_cons pu_mirror_in pu_nil)))
theorem pu_check_full_signs : ∀ ds, Pu (f_check_full_signs ds) := pu_run (by decide +kernel) (pu_cons pu_is_scrap pu_nil)
theorem pu_next_small : ∀ ds, Pu (f_next_small ds) := pu_run (by decide +kernel) pu_nil
theorem pu_full_ring : ∀ ds, Pu (f_full_ring ds) := pu_run (by decide +kernel) (pu_cons pu_check_full_signs (pu_cons pu_check_ring_size (pu_cons pu_next_small pu_nil)))
theorem pu_is_full_ring : ∀ ds, Pu (f_is_full_ring ds) := pu_run (by decide +kernel) (pu_cons pu_check_full_signs (pu_cons pu_check_ring_size (pu_cons pu_is_scrap (pu_cons pu_power_of pu_nil))))
theorem pu_how_many_full : ∀ ds, Pu (f_how_many_full ds) := pu_run (by decide +kernel) (pu_cons pu_check_full_signs (pu_cons pu_check_ring_size (pu_cons pu_power_of pu_nil)))
theorem pu__law_further : ∀ ds, Pu (f__law_further ds) := pu_run (by decide +kernel) (pu_cons pu_how_many_small (pu_cons pu_mirror_of (pu_cons pu_is_even (pu_cons pu_is_even_ring (pu_cons pu_even_stretches (pu_cons pu_least_reading (pu_cons pu_full_ring (pu_cons pu_is_full_ring (pu_cons pu_how_many_full pu_nil)))))))))
theorem pu__law_call : ∀ ds, Pu (f__law_call ds) := pu_run (by decide +kernel) (pu_cons pu_ring_turned (pu_cons pu_ring_turnings (pu_cons pu_least_turning (pu_cons pu_turns_to (pu_cons pu_root_of (pu_cons pu_ring_windows (pu_cons pu_ring_counts (pu_cons pu_is_small (pu_cons pu_small_parts (pu_cons pu_how_many_rings (pu_cons pu_how_many_both (pu_cons pu__law_further pu_nil))))))))))))
theorem pu__law_caught : ∀ ds, Pu (f__law_caught ds) := pu_run (by decide +kernel) (pu_cons pu__law_call pu_nil)
end K92

namespace K92
open PV
def kinds : List (List Nat) := [[115, 99, 114, 97, 112], [99, 111, 117, 110, 116], [115, 99, 114, 97, 112], [115, 99, 114, 97, 112], [115, 99, 114, 97, 112], [115, 99, 114, 97, 112], [115, 99, 114, 97, 112], [115, 99, 114, 97, 112], [115, 105, 122, 101], [115, 99, 114, 97, 112], [115, 105, 122, 101], [115, 99, 114, 97, 112], [115, 116, 111, 114, 121], [115, 105, 122, 101], [115, 105, 122, 101], [115, 105, 122, 101], [115, 105, 122, 101], [115, 105, 122, 101], [115, 105, 122, 101], [109, 97, 116, 101, 115], [109, 97, 116, 101, 100], [109, 97, 116, 101, 115], [109, 97, 116, 101, 100], [109, 97, 116, 101, 115], [114, 105, 110, 103], [109, 97, 116, 101, 115], [109, 97, 116, 101, 100], [109, 97, 116, 101, 115], [114, 105, 110, 103], [115, 105, 103, 110, 115], [115, 105, 122, 101], [115, 105, 103, 110, 115], [115, 105, 122, 101], [115, 105, 103, 110, 115], [115, 105, 122, 101]]
def mates : D := .dct [.str [116], .str [97], .str [99]] [.str [97], .str [116], .str [99]]
def oddsOf (k : List Nat) : List D := match f__law_odds [.str k] [] with
  | .ok (.lst l) _ => l
  | _ => []
def dueOf (k : List Nat) (d : D) : D := .lst [.bl (k ∈ [[115, 99, 114, 97, 112], [115, 116, 111, 114, 121], [109, 97, 116, 101, 100], [114, 105, 110, 103]]), .bl (k ∈ [[99, 111, 117, 110, 116], [115, 105, 122, 101]]), .bl (k ∈ [[109, 97, 116, 101, 115], [115, 105, 103, 110, 115]]), .str (reprS d)]
theorem odds_ck : kinds.all (fun k => isOk (f__law_odds [.str k] []) (.lst (oddsOf k))) = true := by decide +kernel
theorem all_ck : (List.range 35).all (fun (i : Nat) => (oddsOf (kinds.getD i [])).all fun d => isOk (f__law_caught [.int (i : Int), mates, d] []) (dueOf (kinds.getD i []) d)) = true := by decide +kernel
theorem good_ck : ([(1, .int 0), (5, .str [99]), (8, .int 1), (12, .str []), (14, .int 1), (20, .str []), (22, .str [99, 97, 116]), (26, .str []), (28, .str [99]), (30, .int 1), (34, .int 2)] : List (Int × D)).all (fun p => isOk (f__law_caught [.int p.1, mates, p.2] []) .non) = true := by decide +kernel
theorem more_ck : (isAny (f_ring_windows [.str [97, 98], .int 31] []) && isAny (f_how_many_rings [.int 2, .int 41] []) && isAny (f_how_many_both [.int 2, .int 41] []) && isAny (f_how_many_small [.int 2, .int 41] [])) = true := by decide +kernel
end K92

namespace K92
open PV
abbrev nL (l : List Nat) : D := .lst (l.map fun (k : Nat) => .int (k : Int))
theorem nL_data : ∀ l : List Nat, datasOk (l.map fun (k : Nat) => D.int (k : Int)) = true
  | [] => rfl
  | _ :: r => nL_data r
theorem nL_ne (l : List Nat) : copD .ne (nL l) (.lst []) = some (!l.isEmpty) := by
  rw [cop_ne (by unfold cmpOk; rw [show dataOk (nL l) = true from nL_data _]; simp [dataOk, datasOk, dep, deps])]
  show some (!eqD (.lst (l.map fun (k : Nat) => D.int (k : Int))) (.lst [])) = _
  cases l <;> rfl
theorem erase_map {α β : Type} (f : α → β) : ∀ (l : List α) (i : Nat), (l.map f).eraseIdx i = (l.eraseIdx i).map f
  | [], _ => rfl
  | _ :: _, 0 => rfl
  | x :: r, i + 1 => by
    show f x :: (r.map f).eraseIdx i = f x :: (r.eraseIdx i).map f
    rw [erase_map f r i]
theorem pop_ok {a : List Nat} {i : Nat} (h : i < a.length) (hz : a.length ≤ 100) : popKD (a.map fun (k : Nat) => D.int (k : Int)) (i : Int) = some (.int (a[i] : Nat), (a.eraseIdx i).map fun (k : Nat) => D.int (k : Int)) := by
  unfold popKD
  rw [if_pos ⟨by omega, by omega⟩, Int.toNat_natCast, List.getElem?_map, List.getElem?_eq_getElem h]
  show some (D.int (a[i] : Nat), (a.map fun (k : Nat) => D.int (k : Int)).eraseIdx i) = _
  rw [erase_map]
theorem order_ok {n j : Nat} {l : List Nat} {S : List D} {P : D → List D → Prop} (hG : Gn n j S) (hl : l.length ≤ 40) (hj : j + 10000 < 2 ^ 62) (h : ∀ m S', (∀ k ∈ m, k ∈ l) → Gn n (j + 5000) S' → P (nL m) S') : Ok (f__law_drawn_order [.ref n, nL l] S) P := by
  refine Ok_run ?_
  show Ok (exSs ⟨fnT [f__law_random], gvT []⟩ b__law_drawn_order [.val (.ref n), .val (nL l), .un, .un] S) _
  have f0 : fnT [f__law_random] 0 = fRand := rfl
  have ls : lstD (nL l) = some (l.map fun (k : Nat) => D.int (k : Int)) := rfl
  have z0 : (([] : List D).length ≤ SZ) = True := eq_true (by decide)
  have o1 : isOb (nL l) = true := rfl
  have o2 : isOb (.lst []) = true := rfl
  refine Ok_cons ?_
  rw [xS_parQ]
  simp only [eE_lstI, eE_lst, es_nil, eE_var, List.getElem?_cons_zero, List.getElem?_cons_succ, R.bnd_ok, R.lif_some, ls, Option.map_some, z0, if_true, R.gt_ok, o1, o2, ne_eq, Nat.reduceEqDiff, not_false_eq_true, and_self, Ok_ok]
  refine SeqP_i (C_whl ?_)
  simp only [List.set_cons_succ, List.set_cons_zero]
  refine Ok_whlGo (fun m σ S' => ∃ a b : List Nat, σ = [.val (.ref n), .val (nL l), .own (nL a), .own (nL b)] ∧ m = a.length ∧ (∀ k ∈ a, k ∈ l) ∧ (∀ k ∈ b, k ∈ l) ∧ a.length + b.length = l.length ∧ Gn n (j + 100 * b.length) S') (fun m σ S' hI => ?_) _ l.length _ _ ⟨l, [], rfl, rfl, fun k h => h, fun k h => (by cases h), rfl, hG⟩ (by show _ < 1000000000; omega)
  obtain ⟨a, b, rfl, rfl, ha, hb, hab, g1⟩ := hI
  simp only [eT_cmp, eE_bvar, eE_lst, es_nil, List.getElem?_cons_zero, List.getElem?_cons_succ, Option.bind_some, Slot.get, R.lif_some, R.bnd_ok, z0, if_true, nL_ne, Ok_ok]
  by_cases hn : a = []
  · subst hn
    simp only [List.isEmpty_nil, Bool.not_true, Bool.false_eq_true, if_false]
    refine SeqP_i (C_ret ?_)
    simp only [eE_bvar, List.getElem?_cons_zero, List.getElem?_cons_succ, Option.bind_some, Slot.get, R.lif_some, Ok_ok]
    exact h b S' hb (g1.mono (by omega))
  · have hp : 0 < a.length := List.length_pos_iff.mpr hn
    have he : a.isEmpty = false := by cases a with | nil => exact absurd rfl hn | cons _ _ => rfl
    have bl : biD .len [nL a] = some (.int (a.length : Int)) := by show some (D.int ((a.map fun (k : Nat) => D.int (k : Int)).length : Int)) = _; rw [List.length_map]
    simp only [he, Bool.not_false, if_true]
    refine Ok_cons ?_
    rw [xS_appP]
    simp only [List.getElem?_cons_zero, List.getElem?_cons_succ]
    refine Ok_gt ?_
    simp only [eE_call, eE_bi, eE_bvar, es_cons, es_nil, eE_var, List.getElem?_cons_zero, List.getElem?_cons_succ, Option.bind_some, Slot.get, R.lif_some, R.bnd_ok, bl, f0]
    refine rand_ok g1 (by omega) (by omega) (by omega) fun r S2 r0 r1 g2 => ?_
    obtain ⟨i, hi, rfl⟩ : ∃ i : Nat, i < a.length ∧ r = (i : Int) := ⟨r.toNat, by omega, by omega⟩
    have hz : ((b.map fun (k : Nat) => D.int (k : Int)).length < SZ ∧ (3 : Nat) ≠ 2) = True := eq_true ⟨by rw [List.length_map]; show _ < 16777216; omega, by decide⟩
    simp only [hz, if_true, pop_ok hi (by omega), Ok_ok]
    refine SeqP_i (Ok_nil ⟨a.length - 1, by omega, a.eraseIdx i, b ++ [a[i]], ?_, by rw [List.length_eraseIdx_of_lt hi], fun k hk => ha k (List.mem_of_mem_eraseIdx hk), fun k hk => ?_, ?_, g2.mono (by rw [List.length_append]; show _ ≤ j + 100 * (b.length + 1); omega)⟩)
    · have e : (b ++ [a[i]]).map (fun (k : Nat) => D.int (k : Int)) = b.map (fun (k : Nat) => D.int (k : Int)) ++ [.int (a[i] : Nat)] := by rw [List.map_append]; rfl
      show [_, _, _, _] = [_, _, _, Slot.own (D.lst ((b ++ [a[i]]).map fun (k : Nat) => D.int (k : Int)))]
      rw [e]
    · rcases List.mem_append.mp hk with hk | hk
      · exact hb k hk
      · rw [List.mem_singleton.mp hk]; exact ha _ (List.getElem_mem hi)
    · rw [List.length_eraseIdx_of_lt hi, List.length_append]
      show a.length - 1 + (b.length + 1) = _
      omega
end K92

namespace K92
open PV
theorem repr_ck : kinds.all (fun k => (oddsOf k).all fun d => match biD .repr [d] with
    | some (.str x) => x == reprS d
    | _ => false) = true := by decide +kernel
theorem kind_mem {i : Nat} (h : i < 35) : kinds.getD i [] ∈ kinds := by
  have hl : kinds.length = 35 := rfl
  rw [List.getD_eq_getElem?_getD, List.getElem?_eq_getElem (by omega)]
  exact List.getElem_mem _
theorem odds_ok {k : List Nat} (h : k ∈ kinds) (S : List D) : f__law_odds [.str k] S = .ok (.lst (oddsOf k)) S := (pu__law_odds [.str k]).at (List.all_eq_true.mp odds_ck k h) S
theorem caught_ok {i : Nat} (h : i < 35) {d : D} (hd : d ∈ oddsOf (kinds.getD i [])) (S : List D) : f__law_caught [.int (i : Int), mates, d] S = .ok (dueOf (kinds.getD i []) d) S :=
  (pu__law_caught _).at (List.all_eq_true.mp (List.all_eq_true.mp all_ck i (List.mem_range.mpr h)) d hd) S
theorem rep_ok {k : List Nat} (h : k ∈ kinds) {d : D} (hd : d ∈ oddsOf k) : biD .repr [d] = some (.str (reprS d)) := by
  have := List.all_eq_true.mp (List.all_eq_true.mp repr_ck k h) d hd
  split at this
  · rename_i x e
    rw [e, eq_of_beq this]
  · cases this
theorem in2 (k : List Nat) (l : List (List Nat)) : inD (.str k) (.lst (l.map .str)) = some (decide (k ∈ l)) := by
  have hd : ∀ l : List (List Nat), datasOk (l.map .str) = true := by
    intro l
    induction l with
    | nil => rfl
    | cons _ r ih => exact ih
  rw [inD_lst rfl (hd l) (Nat.zero_le _)]
  congr 1
  induction l with
  | nil => rfl
  | cons a r ih =>
    rw [List.map_cons, List.any_cons, ih]
    show (a == k || decide (k ∈ r)) = decide (k ∈ a :: r)
    by_cases e : k = a
    · subst e
      rw [beq_self_eq_true, decide_eq_true List.mem_cons_self]
      rfl
    · rw [beq_eq_false_iff_ne.mpr (fun z => e z.symm), Bool.false_or]
      exact decide_eq_decide.mpr ⟨fun h => List.mem_cons_of_mem _ h, fun h => (List.mem_cons.mp h).resolve_left e⟩
theorem due_ne (a b c : Bool) (x : List Nat) : copD .ne (.lst [.bl a, .bl b, .bl c, .str x]) (.lst [.bl a, .bl b, .bl c, .str x]) = some false := by
  rw [cop_ne rfl]
  simp [eqD, eqDs]
abbrev GW : PV.Env := ⟨fnT [f__law_generator, f__law_drawn_order, f__law_odds, f__law_caught, f_ring_windows, f_how_many_rings, f_how_many_both, f_how_many_small], gvT []⟩
def goods : List (Int × D) := [(1, .int 0), (5, .str [99]), (8, .int 1), (12, .str []), (14, .int 1), (20, .str []), (22, .str [99, 97, 116]), (26, .str []), (28, .str [99]), (30, .int 1), (34, .int 2)]
theorem good_ok {p : Int × D} (h : p ∈ goods) (S : List D) : f__law_caught [.int p.1, mates, p.2] S = .ok .non S := (pu__law_caught _).at (List.all_eq_true.mp good_ck p h) S
theorem w0 : fnT [f__law_generator, f__law_drawn_order, f__law_odds, f__law_caught, f_ring_windows, f_how_many_rings, f_how_many_both, f_how_many_small] 0 = fGen := rfl
theorem w1 : fnT [f__law_generator, f__law_drawn_order, f__law_odds, f__law_caught, f_ring_windows, f_how_many_rings, f_how_many_both, f_how_many_small] 1 = f__law_drawn_order := rfl
theorem w2 : fnT [f__law_generator, f__law_drawn_order, f__law_odds, f__law_caught, f_ring_windows, f_how_many_rings, f_how_many_both, f_how_many_small] 2 = f__law_odds := rfl
theorem w3 : fnT [f__law_generator, f__law_drawn_order, f__law_odds, f__law_caught, f_ring_windows, f_how_many_rings, f_how_many_both, f_how_many_small] 3 = f__law_caught := rfl
theorem w4 : fnT [f__law_generator, f__law_drawn_order, f__law_odds, f__law_caught, f_ring_windows, f_how_many_rings, f_how_many_both, f_how_many_small] 4 = f_ring_windows := rfl
theorem w5 : fnT [f__law_generator, f__law_drawn_order, f__law_odds, f__law_caught, f_ring_windows, f_how_many_rings, f_how_many_both, f_how_many_small] 5 = f_how_many_rings := rfl
theorem w6 : fnT [f__law_generator, f__law_drawn_order, f__law_odds, f__law_caught, f_ring_windows, f_how_many_rings, f_how_many_both, f_how_many_small] 6 = f_how_many_both := rfl
theorem w7 : fnT [f__law_generator, f__law_drawn_order, f__law_odds, f__law_caught, f_ring_windows, f_how_many_rings, f_how_many_both, f_how_many_small] 7 = f_how_many_small := rfl
theorem more_ok : (∃ d, ∀ S, f_ring_windows [.str [97, 98], .int 31] S = .ok d S) ∧ (∃ d, ∀ S, f_how_many_rings [.int 2, .int 41] S = .ok d S) ∧ (∃ d, ∀ S, f_how_many_both [.int 2, .int 41] S = .ok d S) ∧ ∃ d, ∀ S, f_how_many_small [.int 2, .int 41] S = .ok d S := by
  have h := more_ck
  simp only [Bool.and_eq_true] at h
  obtain ⟨⟨⟨h1, h2⟩, h3⟩, h4⟩ := h
  exact ⟨(pu_ring_windows _).any h1, (pu_how_many_rings _).any h2, (pu_how_many_both _).any h3, (pu_how_many_small _).any h4⟩
theorem kinds_ix {i : Nat} (h : i < 35) (S : List D) : subD (.lst (kinds.map .str)) (.int (i : Int)) S = some (.str (kinds.getD i [])) := by
  have hl : kinds.length = 35 := rfl
  rw [sub_L]
  have e : ixD (kinds.map D.str) (i : Int) = (kinds.map D.str)[i]? := by
    have h0 : (0 : Int) ≤ (i : Int) := by omega
    have h1 : (i : Int) < 35 := by omega
    simp [ixD, L2.atI, L2.ixN, hl, h0, h1]
  rw [e, List.getElem?_map, List.getD_eq_getElem?_getD, List.getElem?_eq_getElem (by omega)]
  rfl
end K92

namespace K92
open PV
def LS : List (List D) → Prop := fun _ => True
theorem in_it {l : List (List Nat)} {x : D} {j : Nat} (h : (l.map D.str)[j]? = some x) : ∃ y ∈ l, x = .str y := by
  rw [List.getElem?_map] at h
  obtain ⟨y, h1, h2⟩ := Option.map_eq_some_iff.mp h
  exact ⟨y, List.mem_of_getElem? h1, h2.symm⟩
theorem len35 : (kinds.map D.str) = [D.str [115, 99, 114, 97, 112], .str [99, 111, 117, 110, 116], .str [115, 99, 114, 97, 112], .str [115, 99, 114, 97, 112], .str [115, 99, 114, 97, 112], .str [115, 99, 114, 97, 112], .str [115, 99, 114, 97, 112], .str [115, 99, 114, 97, 112], .str [115, 105, 122, 101], .str [115, 99, 114, 97, 112], .str [115, 105, 122, 101], .str [115, 99, 114, 97, 112], .str [115, 116, 111, 114, 121], .str [115, 105, 122, 101], .str [115, 105, 122, 101], .str [115, 105, 122, 101], .str [115, 105, 122, 101], .str [115, 105, 122, 101], .str [115, 105, 122, 101]] ++ [D.str [109, 97, 116, 101, 115], .str [109, 97, 116, 101, 100], .str [109, 97, 116, 101, 115], .str [109, 97, 116, 101, 100], .str [109, 97, 116, 101, 115], .str [114, 105, 110, 103], .str [109, 97, 116, 101, 115], .str [109, 97, 116, 101, 100], .str [109, 97, 116, 101, 115], .str [114, 105, 110, 103], .str [115, 105, 103, 110, 115], .str [115, 105, 122, 101], .str [115, 105, 103, 110, 115], .str [115, 105, 122, 101], .str [115, 105, 103, 110, 115], .str [115, 105, 122, 101]] := rfl
theorem mates_ck : dspD [.str [116], .str [97], .str [97], .str [116], .str [99], .str [99]] = some mates := rfl
theorem mates_eq : copD .eq mates mates = some true := by decide +kernel
theorem isn_non : copD .isnot D.non D.non = some false := rfl
abbrev Sg9 (ns : List Int) (g : Nat) (x4 x5 x6 x7 x8 : Slot) : Sg := [.val (.scr ns), .val (.ref g), .val mates, .val (.lst (kinds.map .str)), x4, x5, x6, x7, x8]
theorem main : ∀ ns : List Int, ns.length ≤ 63 → ∃ S, f_law [.scr ns] [] = .ok (.bl true) S := by
  intro ns _
  have key : Ok (f_law [.scr ns] []) fun d S' => d = .bl true := by
    refine Ok_run ?_
    show Ok (exSs GW b_law [.val (.scr ns), .un, .un, .un, .un, .un, .un, .un, .un] []) _
    unfold b_law
    refine C_asg ?_
    simp only [eE_call, es_cons, es_nil, eE_var, eE_lit, List.getElem?_cons_zero, R.bnd_ok, w0]
    refine gen_ok (i := 0) fun S1 hl g => ?_
    refine C_asg ?_
    simp only [eE_dsp, es_cons, es_nil, eE_lit, R.bnd_ok, mates_ck, R.lif_some, Ok_ok]
    refine C_asg ?_
    simp only [eE_lst, es_cons, es_nil, eE_lit, R.bnd_ok, R.lif_some]
    rw [if_pos (by show _ ≤ 16777216; decide), Ok_ok]
    refine C_asg ?_
    simp only [eE_bin, eE_var, List.set_cons_succ, List.set_cons_zero, List.getElem?_cons_succ, List.getElem?_cons_zero, eE_lst, es_cons, es_nil, eE_lit, R.bnd_ok]
    rw [if_pos (by show _ ≤ 16777216; decide), R.bnd_ok, bop_addL (by show _ ≤ 16777216; decide), ← len35, R.lif_some, Ok_ok]
    try simp only [List.set_cons_succ, List.set_cons_zero]
    refine C_for ?_
    have r35 : rangeD [.int 35] = some ((List.range 35).map fun (k : Nat) => .int (k : Int)) := range1 (by decide) (by decide)
    simp only [ev_s, eE_call, es_cons, es_nil, eE_var, eE_lrg, eE_lit, List.getElem?_cons_succ, List.getElem?_cons_zero, R.bnd_ok, r35, Option.map_some, R.lif_some, w1, Ok_bnd]
    refine order_ok (l := List.range 35) g (by decide) (by decide) fun m S2 hm g2 => ?_
    have im : iterD (nL m) = some (m.map fun (k : Nat) => D.int (k : Int)) := rfl
    rw [im, R.lif_some, Ok_ok]
    refine Ok_forGo (fun i σ S' => ∃ x4 x5 x6 x7 x8, σ = Sg9 ns _ x4 x5 x6 x7 x8) _ 0 _ _ ⟨_, _, _, _, _, rfl⟩ (fun i x σ S' hx hI => ?_) fun σ σS hI => ?_
    · obtain ⟨x4, x5, x6, x7, x8, rfl⟩ := hI
      obtain ⟨k, hk, rfl⟩ : ∃ k, k < 35 ∧ x = .int ((k : Nat) : Int) := by
        rw [List.getElem?_map] at hx
        obtain ⟨y, h1, h2⟩ := Option.map_eq_some_iff.mp hx
        exact ⟨y, List.mem_range.mp (hm y (List.mem_of_getElem? h1)), h2.symm⟩
      refine ⟨_, rfl, ?_⟩
      refine C_asg ?_
      simp only [eE_sub, eE_var, List.set_cons_succ, List.set_cons_zero, List.getElem?_cons_succ, List.getElem?_cons_zero, R.bnd_ok, kinds_ix hk, R.lif_some, Ok_ok]
      refine C_for ?_
      simp only [ev_s, eE_call, es_cons, es_nil, eE_var, List.getElem?_cons_succ, List.getElem?_cons_zero, R.bnd_ok, w2, odds_ok (kind_mem hk), iterD, R.lif_some, Ok_ok]
      refine Ok_forGo (fun i σ S' => ∃ x6 x7 x8, σ = Sg9 ns _ (.val (.int (k : Int))) (.val (.str (kinds.getD k []))) x6 x7 x8) _ 0 _ _ ⟨_, _, _, rfl⟩ (fun i d σ S' hd hI => ?_) fun σ σS hI => ?_
      · obtain ⟨x6, x7, x8, rfl⟩ := hI
        have hd : d ∈ oddsOf (kinds.getD k []) := List.mem_of_getElem? hd
        refine ⟨_, rfl, ?_⟩
        refine C_asg ?_
        have c1 := in2 (kinds.getD k []) [[115, 99, 114, 97, 112], [115, 116, 111, 114, 121], [109, 97, 116, 101, 100], [114, 105, 110, 103]]
        have c2 := in2 (kinds.getD k []) [[99, 111, 117, 110, 116], [115, 105, 122, 101]]
        have c3 := in2 (kinds.getD k []) [[109, 97, 116, 101, 115], [115, 105, 103, 110, 115]]
        simp only [List.map_cons, List.map_nil] at c1 c2 c3
        have zz : ∀ xs : List D, (xs.length ≤ SZ) = (xs.length ≤ 16777216) := fun _ => rfl
        simp only [eE_lst, es_cons, es_nil, eE_cmp, eT_cmp, eE_bi, eE_var, eE_lit, List.set_cons_succ, List.set_cons_zero, List.getElem?_cons_succ, List.getElem?_cons_zero, R.bnd_ok, zz, List.length_cons, List.length_nil, Nat.reduceAdd, Nat.reduceLeDiff, if_true, copD, c1, c2, c3, Option.map_some, R.lif_some, rep_ok (kind_mem hk) hd, Ok_ok]
        refine C_if1 ?_
        simp only [eT_cmp, eE_call, es_cons, es_nil, eE_var, List.set_cons_succ, List.set_cons_zero, List.getElem?_cons_succ, List.getElem?_cons_zero, R.bnd_ok, w3, caught_ok hk hd]
        rw [show dueOf (kinds.getD k []) d = .lst [.bl _, .bl _, .bl _, .str _] from rfl, due_ne, R.lif_some, Ok_ok, if_neg (by decide)]
        exact Ok_nil ⟨_, _, _, rfl⟩
      · obtain ⟨x6, x7, x8, rfl⟩ := hI
        exact SeqP_i (Ok_nil ⟨_, _, _, _, _, rfl⟩)
    · obtain ⟨x4, x5, x6, x7, x8, rfl⟩ := hI
      refine SeqP_i (C_for ?_)
      have z11 : ([] : List D).length ≤ SZ := by decide
      have zz : ∀ xs : List D, (xs.length ≤ SZ) = (xs.length ≤ 16777216) := fun _ => rfl
      simp only [ev_s, eE_lst, eE_tup, es_cons, es_nil, eE_lit, R.bnd_ok, zz, List.length_cons, List.length_nil, Nat.reduceAdd, Nat.reduceLeDiff, if_true, iterD, R.lif_some, Ok_ok]
      refine Ok_forGo (fun i σ S' => ∃ x4 x5 x6 x7 x8, σ = Sg9 ns _ x4 x5 x6 x7 x8) _ 0 _ _ ⟨_, _, _, _, _, rfl⟩ (fun i d σ S' hd hI => ?_) fun σ σS hI => ?_
      · obtain ⟨x4, x5, x6, x7, x8, rfl⟩ := hI
        obtain ⟨p, hp, rfl⟩ : ∃ p ∈ goods, d = .tup [.int p.1, p.2] := by
          have h2 : (goods.map fun p => D.tup [.int p.1, p.2])[i]? = some d := hd
          rw [List.getElem?_map] at h2
          obtain ⟨y, h3, h4⟩ := Option.map_eq_some_iff.mp h2
          exact ⟨y, List.mem_of_getElem? h3, h4.symm⟩
        refine ⟨_, rfl, ?_⟩
        refine C_if1 ?_
        simp only [eT_cmp, eE_call, es_cons, es_nil, eE_var, eE_lit, List.set_cons_succ, List.set_cons_zero, List.getElem?_cons_succ, List.getElem?_cons_zero, R.bnd_ok, w3, good_ok hp, isn_non, R.lif_some, Ok_ok]
        rw [if_neg (by decide)]
        exact Ok_nil ⟨_, _, _, _, _, rfl⟩
      · obtain ⟨x4, x5, x6, x7, x8, rfl⟩ := hI
        obtain ⟨⟨a1, h1⟩, ⟨a2, h2⟩, ⟨a3, h3⟩, a4, h4⟩ := more_ok
        refine SeqP_i (C_exp ?_)
        simp only [eE_call, es_cons, es_nil, eE_lit, R.bnd_ok, w4, h1, Ok_ok]
        refine C_exp ?_
        simp only [eE_call, es_cons, es_nil, eE_lit, R.bnd_ok, w5, h2, Ok_ok]
        refine C_exp ?_
        simp only [eE_call, es_cons, es_nil, eE_lit, R.bnd_ok, w6, h3, Ok_ok]
        refine C_exp ?_
        simp only [eE_call, es_cons, es_nil, eE_lit, R.bnd_ok, w7, h4, Ok_ok]
        refine C_ret ?_
        simp only [eE_cmp, eT_cmp, eE_dsp, es_cons, es_nil, eE_lit, eE_var, List.getElem?_cons_succ, List.getElem?_cons_zero, R.bnd_ok, mates_ck, R.lif_some, mates_eq, Option.map_some, Ok_ok]
        rfl
  obtain ⟨d, S', e, rfl⟩ := key.ex
  exact ⟨S', e⟩
end K92

namespace K92
open PySem PySem.Spec PyProof.Rows L2 PV
abbrev FVs : List Str := []
abbrev CNs : List Str := ["ScrapError", "InvalidNumber", "InvalidSigns", "InvalidScrap"]
def topS (i : Nat) : Stmt := PySem.Challenge.pw_scrapstory_k92_rings_and_mirrors_refused.main.body.getD i (.Pass ⟨0, 0, 0, 0⟩)
abbrev s__law_cell : Stmt := topS 60
theorem sc__law_cell : FnScope ["script", "index"] ["script", "index"] (defScope s__law_cell) := ⟨rfl, rfl, rfl, by decide +kernel, rfl, by decide +kernel, by decide +kernel⟩
theorem ma__law_cell : mSs ⟨["script", "index"], defScope s__law_cell, none, [], [], FVs, CNs⟩ b__law_cell (defBody s__law_cell) = true := by decide +kernel
abbrev s__law_generator : Stmt := topS 61
theorem sc__law_generator : FnScope ["script", "index", "seed"] ["script", "index"] (defScope s__law_generator) := ⟨rfl, rfl, rfl, by decide +kernel, rfl, by decide +kernel, by decide +kernel⟩
theorem ma__law_generator : mSs ⟨["script", "index", "seed"], defScope s__law_generator, none, [("_law_cell", 2, [])], [], FVs, CNs⟩ b__law_generator (defBody s__law_generator) = true := by decide +kernel
abbrev s__law_hash : Stmt := topS 59
theorem sc__law_hash : FnScope ["seed", "index", "mixed"] ["seed", "index"] (defScope s__law_hash) := ⟨rfl, rfl, rfl, by decide +kernel, rfl, by decide +kernel, by decide +kernel⟩
theorem ma__law_hash : mSs ⟨["seed", "index", "mixed"], defScope s__law_hash, none, [], [], FVs, CNs⟩ b__law_hash (defBody s__law_hash) = true := by decide +kernel
abbrev s__law_random : Stmt := topS 62
theorem sc__law_random : FnScope ["generator", "bound", "drawn", "turn"] ["generator", "bound"] (defScope s__law_random) := ⟨rfl, rfl, rfl, by decide +kernel, rfl, by decide +kernel, by decide +kernel⟩
theorem ma__law_random : mSs ⟨["generator", "bound", "drawn", "turn"], defScope s__law_random, none, [("_law_hash", 2, [])], [], FVs, CNs⟩ b__law_random (defBody s__law_random) = true := by decide +kernel
abbrev s__law_drawn_order : Stmt := topS 63
theorem sc__law_drawn_order : FnScope ["generator", "things", "left", "found"] ["generator", "things"] (defScope s__law_drawn_order) := ⟨rfl, rfl, rfl, by decide +kernel, rfl, by decide +kernel, by decide +kernel⟩
theorem ma__law_drawn_order : mSs ⟨["generator", "things", "left", "found"], defScope s__law_drawn_order, none, [("_law_random", 2, [])], [], FVs, CNs⟩ b__law_drawn_order (defBody s__law_drawn_order) = true := by decide +kernel
abbrev s__law_odds : Stmt := topS 67
theorem sc__law_odds : FnScope ["kind", "strange"] ["kind"] (defScope s__law_odds) := ⟨rfl, rfl, rfl, by decide +kernel, rfl, by decide +kernel, by decide +kernel⟩
theorem ma__law_odds : mSs ⟨["kind", "strange"], defScope s__law_odds, none, [], [], FVs, CNs⟩ b__law_odds (defBody s__law_odds) = true := by decide +kernel
abbrev s_is_signs : Stmt := topS 9
theorem sc_is_signs : FnScope ["value", "signs", "sign"] ["value", "signs"] (defScope s_is_signs) := ⟨rfl, rfl, rfl, by decide +kernel, rfl, by decide +kernel, by decide +kernel⟩
theorem ma_is_signs : mSs ⟨["value", "signs", "sign"], defScope s_is_signs, none, [], [], FVs, CNs⟩ b_is_signs (defBody s_is_signs) = true := by decide +kernel
abbrev s_is_story : Stmt := topS 11
theorem sc_is_story : FnScope ["value"] ["value"] (defScope s_is_story) := ⟨rfl, rfl, rfl, by decide +kernel, rfl, by decide +kernel, by decide +kernel⟩
theorem ma_is_story : mSs ⟨["value"], defScope s_is_story, none, [("is_signs", 2, [])], ["SMALL"], FVs, CNs⟩ b_is_story (defBody s_is_story) = true := by decide +kernel
abbrev s_is_scrap : Stmt := topS 12
theorem sc_is_scrap : FnScope ["value"] ["value"] (defScope s_is_scrap) := ⟨rfl, rfl, rfl, by decide +kernel, rfl, by decide +kernel, by decide +kernel⟩
theorem ma_is_scrap : mSs ⟨["value"], defScope s_is_scrap, none, [("is_story", 1, [])], [], FVs, CNs⟩ b_is_scrap (defBody s_is_scrap) = true := by decide +kernel
abbrev s_check_scrap : Stmt := topS 14
theorem sc_check_scrap : FnScope ["scrap"] ["scrap"] (defScope s_check_scrap) := ⟨rfl, rfl, rfl, by decide +kernel, rfl, by decide +kernel, by decide +kernel⟩
theorem ma_check_scrap : mSs ⟨["scrap"], defScope s_check_scrap, none, [("is_scrap", 1, [])], [], FVs, CNs⟩ b_check_scrap (defBody s_check_scrap) = true := by decide +kernel
abbrev s_is_whole : Stmt := topS 7
theorem sc_is_whole : FnScope ["value"] ["value"] (defScope s_is_whole) := ⟨rfl, rfl, rfl, by decide +kernel, rfl, by decide +kernel, by decide +kernel⟩
theorem ma_is_whole : mSs ⟨["value"], defScope s_is_whole, none, [], [], FVs, CNs⟩ b_is_whole (defBody s_is_whole) = true := by decide +kernel
abbrev s_is_count : Stmt := topS 8
theorem sc_is_count : FnScope ["value"] ["value"] (defScope s_is_count) := ⟨rfl, rfl, rfl, by decide +kernel, rfl, by decide +kernel, by decide +kernel⟩
theorem ma_is_count : mSs ⟨["value"], defScope s_is_count, none, [("is_whole", 1, [])], [], FVs, CNs⟩ b_is_count (defBody s_is_count) = true := by decide +kernel
abbrev s_check_number : Stmt := topS 10
theorem sc_check_number : FnScope ["value"] ["value"] (defScope s_check_number) := ⟨rfl, rfl, rfl, by decide +kernel, rfl, by decide +kernel, by decide +kernel⟩
theorem ma_check_number : mSs ⟨["value"], defScope s_check_number, none, [("is_count", 1, [])], [], FVs, CNs⟩ b_check_number (defBody s_check_number) = true := by decide +kernel
abbrev s_turned_by : Stmt := topS 16
theorem sc_turned_by : FnScope ["scrap", "many", "at"] ["scrap", "many"] (defScope s_turned_by) := ⟨rfl, rfl, rfl, by decide +kernel, rfl, by decide +kernel, by decide +kernel⟩
theorem ma_turned_by : mSs ⟨["scrap", "many", "at"], defScope s_turned_by, none, [], [], FVs, CNs⟩ b_turned_by (defBody s_turned_by) = true := by decide +kernel
abbrev s_ring_turned : Stmt := topS 17
theorem sc_ring_turned : FnScope ["scrap", "many"] ["scrap", "many"] (defScope s_ring_turned) := ⟨rfl, rfl, rfl, by decide +kernel, rfl, by decide +kernel, by decide +kernel⟩
theorem ma_ring_turned : mSs ⟨["scrap", "many"], defScope s_ring_turned, none, [("check_scrap", 1, []), ("check_number", 1, []), ("turned_by", 2, [])], [], FVs, CNs⟩ b_ring_turned (defBody s_ring_turned) = true := by decide +kernel
abbrev s_root_size : Stmt := topS 18
theorem sc_root_size : FnScope ["scrap", "size"] ["scrap"] (defScope s_root_size) := ⟨rfl, rfl, rfl, by decide +kernel, rfl, by decide +kernel, by decide +kernel⟩
theorem ma_root_size : mSs ⟨["scrap", "size"], defScope s_root_size, none, [("turned_by", 2, [])], [], FVs, CNs⟩ b_root_size (defBody s_root_size) = true := by decide +kernel
abbrev s_all_turnings : Stmt := topS 19
theorem sc_all_turnings : FnScope ["scrap", "many"] ["scrap"] (defScope s_all_turnings) := ⟨rfl, rfl, rfl, by decide +kernel, rfl, by decide +kernel, by decide +kernel⟩
theorem ma_all_turnings : mSs ⟨["scrap", "many"], defScope s_all_turnings, none, [("root_size", 1, []), ("turned_by", 2, [])], [], FVs, CNs⟩ b_all_turnings (defBody s_all_turnings) = true := by decide +kernel
abbrev s_ring_turnings : Stmt := topS 20
theorem sc_ring_turnings : FnScope ["scrap"] ["scrap"] (defScope s_ring_turnings) := ⟨rfl, rfl, rfl, by decide +kernel, rfl, by decide +kernel, by decide +kernel⟩
theorem ma_ring_turnings : mSs ⟨["scrap"], defScope s_ring_turnings, none, [("check_scrap", 1, []), ("all_turnings", 1, [])], [], FVs, CNs⟩ b_ring_turnings (defBody s_ring_turnings) = true := by decide +kernel
abbrev s_least_turning : Stmt := topS 21
theorem sc_least_turning : FnScope ["scrap"] ["scrap"] (defScope s_least_turning) := ⟨rfl, rfl, rfl, by decide +kernel, rfl, by decide +kernel, by decide +kernel⟩
theorem ma_least_turning : mSs ⟨["scrap"], defScope s_least_turning, none, [("check_scrap", 1, []), ("all_turnings", 1, [])], [], FVs, CNs⟩ b_least_turning (defBody s_least_turning) = true := by decide +kernel
abbrev s_turns_to : Stmt := topS 22
theorem sc_turns_to : FnScope ["one", "other", "found", "many"] ["one", "other"] (defScope s_turns_to) := ⟨rfl, rfl, rfl, by decide +kernel, rfl, by decide +kernel, by decide +kernel⟩
theorem ma_turns_to : mSs ⟨["one", "other", "found", "many"], defScope s_turns_to, none, [("check_scrap", 1, []), ("turned_by", 2, [])], [], FVs, CNs⟩ b_turns_to (defBody s_turns_to) = true := by decide +kernel
abbrev s_root_of : Stmt := topS 23
theorem sc_root_of : FnScope ["scrap"] ["scrap"] (defScope s_root_of) := ⟨rfl, rfl, rfl, by decide +kernel, rfl, by decide +kernel, by decide +kernel⟩
theorem ma_root_of : mSs ⟨["scrap"], defScope s_root_of, none, [("check_scrap", 1, []), ("root_size", 1, [])], [], FVs, CNs⟩ b_root_of (defBody s_root_of) = true := by decide +kernel
abbrev s_check_ring_size : Stmt := topS 15
theorem sc_check_ring_size : FnScope ["size"] ["size"] (defScope s_check_ring_size) := ⟨rfl, rfl, rfl, by decide +kernel, rfl, by decide +kernel, by decide +kernel⟩
theorem ma_check_ring_size : mSs ⟨["size"], defScope s_check_ring_size, none, [("is_count", 1, [])], [], FVs, CNs⟩ b_check_ring_size (defBody s_check_ring_size) = true := by decide +kernel
abbrev s_windows_round : Stmt := topS 24
theorem sc_windows_round : FnScope ["scrap", "size", "round_about", "at"] ["scrap", "size"] (defScope s_windows_round) := ⟨rfl, rfl, rfl, by decide +kernel, rfl, by decide +kernel, by decide +kernel⟩
theorem ma_windows_round : mSs ⟨["scrap", "size", "round_about", "at"], defScope s_windows_round, none, [], [], FVs, CNs⟩ b_windows_round (defBody s_windows_round) = true := by decide +kernel
abbrev s_ring_windows : Stmt := topS 25
theorem sc_ring_windows : FnScope ["scrap", "size"] ["scrap", "size"] (defScope s_ring_windows) := ⟨rfl, rfl, rfl, by decide +kernel, rfl, by decide +kernel, by decide +kernel⟩
theorem ma_ring_windows : mSs ⟨["scrap", "size"], defScope s_ring_windows, none, [("check_scrap", 1, []), ("check_ring_size", 1, []), ("windows_round", 2, [])], [], FVs, CNs⟩ b_ring_windows (defBody s_ring_windows) = true := by decide +kernel
abbrev s_ring_counts : Stmt := topS 26
theorem sc_ring_counts : FnScope ["scrap", "size", "found", "window"] ["scrap", "size"] (defScope s_ring_counts) := ⟨rfl, rfl, rfl, by decide +kernel, rfl, by decide +kernel, by decide +kernel⟩
theorem ma_ring_counts : mSs ⟨["scrap", "size", "found", "window"], defScope s_ring_counts, none, [("check_scrap", 1, []), ("check_ring_size", 1, []), ("windows_round", 2, [])], [], FVs, CNs⟩ b_ring_counts (defBody s_ring_counts) = true := by decide +kernel
abbrev s_is_least_end : Stmt := topS 41
theorem sc_is_least_end : FnScope ["scrap", "at"] ["scrap"] (defScope s_is_least_end) := ⟨rfl, rfl, rfl, by decide +kernel, rfl, by decide +kernel, by decide +kernel⟩
theorem ma_is_least_end : mSs ⟨["scrap", "at"], defScope s_is_least_end, none, [], [], FVs, CNs⟩ b_is_least_end (defBody s_is_least_end) = true := by decide +kernel
abbrev s_is_small : Stmt := topS 42
theorem sc_is_small : FnScope ["scrap"] ["scrap"] (defScope s_is_small) := ⟨rfl, rfl, rfl, by decide +kernel, rfl, by decide +kernel, by decide +kernel⟩
theorem ma_is_small : mSs ⟨["scrap"], defScope s_is_small, none, [("check_scrap", 1, []), ("is_least_end", 1, [])], [], FVs, CNs⟩ b_is_small (defBody s_is_small) = true := by decide +kernel
abbrev s_small_run : Stmt := topS 44
theorem sc_small_run : FnScope ["rest", "at", "size"] ["rest"] (defScope s_small_run) := ⟨rfl, rfl, rfl, by decide +kernel, rfl, by decide +kernel, by decide +kernel⟩
theorem ma_small_run : mSs ⟨["rest", "at", "size"], defScope s_small_run, none, [], [], FVs, CNs⟩ b_small_run (defBody s_small_run) = true := by decide +kernel
abbrev s_small_parts : Stmt := topS 43
theorem sc_small_parts : FnScope ["story", "parts", "rest", "turn", "size", "back"] ["story"] (defScope s_small_parts) := ⟨rfl, rfl, rfl, by decide +kernel, rfl, by decide +kernel, by decide +kernel⟩
theorem ma_small_parts : mSs ⟨["story", "parts", "rest", "turn", "size", "back"], defScope s_small_parts, none, [("is_story", 1, []), ("small_run", 1, [])], [], FVs, CNs⟩ b_small_parts (defBody s_small_parts) = true := by decide +kernel
abbrev s_divisors_of : Stmt := topS 45
theorem sc_divisors_of : FnScope ["size", "part"] ["size"] (defScope s_divisors_of) := ⟨rfl, rfl, rfl, by decide +kernel, rfl, by decide +kernel, by decide +kernel⟩
theorem ma_divisors_of : mSs ⟨["size", "part"], defScope s_divisors_of, none, [], [], FVs, CNs⟩ b_divisors_of (defBody s_divisors_of) = true := by decide +kernel
abbrev s_power_of : Stmt := topS 47
theorem sc_power_of : FnScope ["many", "times", "found", "turn"] ["many", "times"] (defScope s_power_of) := ⟨rfl, rfl, rfl, by decide +kernel, rfl, by decide +kernel, by decide +kernel⟩
theorem ma_power_of : mSs ⟨["many", "times", "found", "turn"], defScope s_power_of, none, [], [], FVs, CNs⟩ b_power_of (defBody s_power_of) = true := by decide +kernel
abbrev s_small_numbers : Stmt := topS 46
theorem sc_small_numbers : FnScope ["many", "size", "found", "part", "less", "smaller"] ["many", "size"] (defScope s_small_numbers) := ⟨rfl, rfl, rfl, by decide +kernel, rfl, by decide +kernel, by decide +kernel⟩
theorem ma_small_numbers : mSs ⟨["many", "size", "found", "part", "less", "smaller"], defScope s_small_numbers, none, [("divisors_of", 1, []), ("power_of", 2, [])], [], FVs, CNs⟩ b_small_numbers (defBody s_small_numbers) = true := by decide +kernel
abbrev s_rings_of : Stmt := topS 49
theorem sc_rings_of : FnScope ["many", "size", "found", "part"] ["many", "size"] (defScope s_rings_of) := ⟨rfl, rfl, rfl, by decide +kernel, rfl, by decide +kernel, by decide +kernel⟩
theorem ma_rings_of : mSs ⟨["many", "size", "found", "part"], defScope s_rings_of, none, [("small_numbers", 2, [])], [], FVs, CNs⟩ b_rings_of (defBody s_rings_of) = true := by decide +kernel
abbrev s_how_many_rings : Stmt := topS 50
theorem sc_how_many_rings : FnScope ["many", "size"] ["many", "size"] (defScope s_how_many_rings) := ⟨rfl, rfl, rfl, by decide +kernel, rfl, by decide +kernel, by decide +kernel⟩
theorem ma_how_many_rings : mSs ⟨["many", "size"], defScope s_how_many_rings, none, [("check_ring_size", 1, []), ("rings_of", 2, [])], [], FVs, CNs⟩ b_how_many_rings (defBody s_how_many_rings) = true := by decide +kernel
abbrev s_how_many_both : Stmt := topS 51
theorem sc_how_many_both : FnScope ["many", "size", "half", "even"] ["many", "size"] (defScope s_how_many_both) := ⟨rfl, rfl, rfl, by decide +kernel, rfl, by decide +kernel, by decide +kernel⟩
theorem ma_how_many_both : mSs ⟨["many", "size", "half", "even"], defScope s_how_many_both, none, [("check_ring_size", 1, []), ("power_of", 2, []), ("rings_of", 2, [])], [], FVs, CNs⟩ b_how_many_both (defBody s_how_many_both) = true := by decide +kernel
abbrev s_how_many_small : Stmt := topS 48
theorem sc_how_many_small : FnScope ["many", "size"] ["many", "size"] (defScope s_how_many_small) := ⟨rfl, rfl, rfl, by decide +kernel, rfl, by decide +kernel, by decide +kernel⟩
theorem ma_how_many_small : mSs ⟨["many", "size"], defScope s_how_many_small, none, [("check_ring_size", 1, []), ("small_numbers", 2, [])], [], FVs, CNs⟩ b_how_many_small (defBody s_how_many_small) = true := by decide +kernel
abbrev s_is_sign : Stmt := topS 28
theorem sc_is_sign : FnScope ["value"] ["value"] (defScope s_is_sign) := ⟨rfl, rfl, rfl, by decide +kernel, rfl, by decide +kernel, by decide +kernel⟩
theorem ma_is_sign : mSs ⟨["value"], defScope s_is_sign, none, [("is_story", 1, [])], [], FVs, CNs⟩ b_is_sign (defBody s_is_sign) = true := by decide +kernel
abbrev s_are_mates : Stmt := topS 29
theorem sc_are_mates : FnScope ["value", "sign"] ["value"] (defScope s_are_mates) := ⟨rfl, rfl, rfl, by decide +kernel, rfl, by decide +kernel, by decide +kernel⟩
theorem ma_are_mates : mSs ⟨["value", "sign"], defScope s_are_mates, none, [("is_sign", 1, [])], [], FVs, CNs⟩ b_are_mates (defBody s_are_mates) = true := by decide +kernel
abbrev s_check_mates : Stmt := topS 30
theorem sc_check_mates : FnScope ["mates"] ["mates"] (defScope s_check_mates) := ⟨rfl, rfl, rfl, by decide +kernel, rfl, by decide +kernel, by decide +kernel⟩
theorem ma_check_mates : mSs ⟨["mates"], defScope s_check_mates, none, [("are_mates", 1, [])], [], FVs, CNs⟩ b_check_mates (defBody s_check_mates) = true := by decide +kernel
abbrev s_check_mated : Stmt := topS 31
theorem sc_check_mated : FnScope ["mates", "story", "sign"] ["mates", "story"] (defScope s_check_mated) := ⟨rfl, rfl, rfl, by decide +kernel, rfl, by decide +kernel, by decide +kernel⟩
theorem ma_check_mated : mSs ⟨["mates", "story", "sign"], defScope s_check_mated, none, [("check_mates", 1, []), ("is_story", 1, [])], [], FVs, CNs⟩ b_check_mated (defBody s_check_mated) = true := by decide +kernel
abbrev s_mirror_in : Stmt := topS 32
theorem sc_mirror_in : FnScope ["mates", "story", "sign"] ["mates", "story"] (defScope s_mirror_in) := ⟨rfl, rfl, rfl, by decide +kernel, rfl, by decide +kernel, by decide +kernel⟩
theorem ma_mirror_in : mSs ⟨["mates", "story", "sign"], defScope s_mirror_in, none, [], [], FVs, CNs⟩ b_mirror_in (defBody s_mirror_in) = true := by decide +kernel
abbrev s_mirror_of : Stmt := topS 33
theorem sc_mirror_of : FnScope ["mates", "story"] ["mates", "story"] (defScope s_mirror_of) := ⟨rfl, rfl, rfl, by decide +kernel, rfl, by decide +kernel, by decide +kernel⟩
theorem ma_mirror_of : mSs ⟨["mates", "story"], defScope s_mirror_of, none, [("check_mated", 2, []), ("mirror_in", 2, [])], [], FVs, CNs⟩ b_mirror_of (defBody s_mirror_of) = true := by decide +kernel
abbrev s_is_even : Stmt := topS 34
theorem sc_is_even : FnScope ["mates", "story"] ["mates", "story"] (defScope s_is_even) := ⟨rfl, rfl, rfl, by decide +kernel, rfl, by decide +kernel, by decide +kernel⟩
theorem ma_is_even : mSs ⟨["mates", "story"], defScope s_is_even, none, [("check_mated", 2, []), ("mirror_in", 2, [])], [], FVs, CNs⟩ b_is_even (defBody s_is_even) = true := by decide +kernel
abbrev s_check_ring : Stmt := topS 35
theorem sc_check_ring : FnScope ["mates", "scrap"] ["mates", "scrap"] (defScope s_check_ring) := ⟨rfl, rfl, rfl, by decide +kernel, rfl, by decide +kernel, by decide +kernel⟩
theorem ma_check_ring : mSs ⟨["mates", "scrap"], defScope s_check_ring, none, [("check_mated", 2, []), ("check_scrap", 1, [])], [], FVs, CNs⟩ b_check_ring (defBody s_check_ring) = true := by decide +kernel
abbrev s_is_even_ring : Stmt := topS 36
theorem sc_is_even_ring : FnScope ["mates", "scrap"] ["mates", "scrap"] (defScope s_is_even_ring) := ⟨rfl, rfl, rfl, by decide +kernel, rfl, by decide +kernel, by decide +kernel⟩
theorem ma_is_even_ring : mSs ⟨["mates", "scrap"], defScope s_is_even_ring, none, [("check_ring", 2, []), ("mirror_in", 2, []), ("all_turnings", 1, [])], [], FVs, CNs⟩ b_is_even_ring (defBody s_is_even_ring) = true := by decide +kernel
abbrev s_widest_at : Stmt := topS 37
theorem sc_widest_at : FnScope ["mates", "story", "start", "end"] ["mates", "story", "start", "end"] (defScope s_widest_at) := ⟨rfl, rfl, rfl, by decide +kernel, rfl, by decide +kernel, by decide +kernel⟩
theorem ma_widest_at : mSs ⟨["mates", "story", "start", "end"], defScope s_widest_at, none, [], [], FVs, CNs⟩ b_widest_at (defBody s_widest_at) = true := by decide +kernel
abbrev s_even_stretches : Stmt := topS 38
theorem sc_even_stretches : FnScope ["mates", "story", "found", "at", "sign", "stretch"] ["mates", "story"] (defScope s_even_stretches) := ⟨rfl, rfl, rfl, by decide +kernel, rfl, by decide +kernel, by decide +kernel⟩
theorem ma_even_stretches : mSs ⟨["mates", "story", "found", "at", "sign", "stretch"], defScope s_even_stretches, none, [("check_mated", 2, []), ("widest_at", 4, [])], [], FVs, CNs⟩ b_even_stretches (defBody s_even_stretches) = true := by decide +kernel
abbrev s_least_reading : Stmt := topS 39
theorem sc_least_reading : FnScope ["mates", "scrap"] ["mates", "scrap"] (defScope s_least_reading) := ⟨rfl, rfl, rfl, by decide +kernel, rfl, by decide +kernel, by decide +kernel⟩
theorem ma_least_reading : mSs ⟨["mates", "scrap"], defScope s_least_reading, none, [("check_ring", 2, []), ("all_turnings", 1, []), ("mirror_in", 2, [])], [], FVs, CNs⟩ b_least_reading (defBody s_least_reading) = true := by decide +kernel
abbrev s_check_full_signs : Stmt := topS 53
theorem sc_check_full_signs : FnScope ["signs", "at"] ["signs"] (defScope s_check_full_signs) := ⟨rfl, rfl, rfl, by decide +kernel, rfl, by decide +kernel, by decide +kernel⟩
theorem ma_check_full_signs : mSs ⟨["signs", "at"], defScope s_check_full_signs, none, [("is_scrap", 1, [])], [], FVs, CNs⟩ b_check_full_signs (defBody s_check_full_signs) = true := by decide +kernel
abbrev s_next_small : Stmt := topS 54
theorem sc_next_small : FnScope ["signs", "scrap", "size", "longer"] ["signs", "scrap", "size"] (defScope s_next_small) := ⟨rfl, rfl, rfl, by decide +kernel, rfl, by decide +kernel, by decide +kernel⟩
theorem ma_next_small : mSs ⟨["signs", "scrap", "size", "longer"], defScope s_next_small, none, [], [], FVs, CNs⟩ b_next_small (defBody s_next_small) = true := by decide +kernel
abbrev s_full_ring : Stmt := topS 55
theorem sc_full_ring : FnScope ["signs", "size", "parts", "scrap"] ["signs", "size"] (defScope s_full_ring) := ⟨rfl, rfl, rfl, by decide +kernel, rfl, by decide +kernel, by decide +kernel⟩
theorem ma_full_ring : mSs ⟨["signs", "size", "parts", "scrap"], defScope s_full_ring, none, [("check_full_signs", 1, []), ("check_ring_size", 1, []), ("next_small", 3, [])], [], FVs, CNs⟩ b_full_ring (defBody s_full_ring) = true := by decide +kernel
abbrev s_is_full_ring : Stmt := topS 56
theorem sc_is_full_ring : FnScope ["signs", "size", "value", "window", "sign"] ["signs", "size", "value"] (defScope s_is_full_ring) := ⟨rfl, rfl, rfl, by decide +kernel, rfl, by decide +kernel, by decide +kernel⟩
theorem ma_is_full_ring : mSs ⟨["signs", "size", "value", "window", "sign"], defScope s_is_full_ring, none, [("check_full_signs", 1, []), ("check_ring_size", 1, []), ("is_scrap", 1, []), ("power_of", 2, [])], [], FVs, CNs⟩ b_is_full_ring (defBody s_is_full_ring) = true := by decide +kernel
abbrev s_how_many_full : Stmt := topS 57
theorem sc_how_many_full : FnScope ["signs", "size", "orders", "many", "found", "turn"] ["signs", "size"] (defScope s_how_many_full) := ⟨rfl, rfl, rfl, by decide +kernel, rfl, by decide +kernel, by decide +kernel⟩
theorem ma_how_many_full : mSs ⟨["signs", "size", "orders", "many", "found", "turn"], defScope s_how_many_full, none, [("check_full_signs", 1, []), ("check_ring_size", 1, []), ("power_of", 2, [])], [], FVs, CNs⟩ b_how_many_full (defBody s_how_many_full) = true := by decide +kernel
abbrev s__law_further : Stmt := topS 65
theorem sc__law_further : FnScope ["door", "mates", "other"] ["door", "mates", "other"] (defScope s__law_further) := ⟨rfl, rfl, rfl, by decide +kernel, rfl, by decide +kernel, by decide +kernel⟩
theorem ma__law_further : mSs ⟨["door", "mates", "other"], defScope s__law_further, none, [("how_many_small", 2, []), ("mirror_of", 2, []), ("is_even", 2, []), ("is_even_ring", 2, []), ("even_stretches", 2, []), ("least_reading", 2, []), ("full_ring", 2, []), ("is_full_ring", 3, []), ("how_many_full", 2, [])], [], FVs, CNs⟩ b__law_further (defBody s__law_further) = true := by decide +kernel
abbrev s__law_call : Stmt := topS 64
theorem sc__law_call : FnScope ["door", "mates", "other"] ["door", "mates", "other"] (defScope s__law_call) := ⟨rfl, rfl, rfl, by decide +kernel, rfl, by decide +kernel, by decide +kernel⟩
theorem ma__law_call : mSs ⟨["door", "mates", "other"], defScope s__law_call, none, [("ring_turned", 2, []), ("ring_turnings", 1, []), ("least_turning", 1, []), ("turns_to", 2, []), ("root_of", 1, []), ("ring_windows", 2, []), ("ring_counts", 2, []), ("is_small", 1, []), ("small_parts", 1, []), ("how_many_rings", 2, []), ("how_many_both", 2, []), ("_law_further", 3, [])], [], FVs, CNs⟩ b__law_call (defBody s__law_call) = true := by decide +kernel
abbrev s__law_caught : Stmt := topS 66
theorem sc__law_caught : FnScope ["door", "mates", "other", "caught", "shown", "error"] ["door", "mates", "other"] (defScope s__law_caught) := ⟨rfl, rfl, rfl, by decide +kernel, rfl, by decide +kernel, by decide +kernel⟩
theorem ma__law_caught : mSs ⟨["door", "mates", "other", "caught", "shown", "error"], defScope s__law_caught, none, [("_law_call", 3, [])], [], FVs, CNs⟩ b__law_caught (defBody s__law_caught) = true := by decide +kernel
abbrev s_law : Stmt := topS 68
theorem sc_law : FnScope ["script", "generator", "mates", "kinds", "door", "kind", "odd", "good", "due"] ["script"] (defScope s_law) := ⟨rfl, rfl, rfl, by decide +kernel, rfl, by decide +kernel, by decide +kernel⟩
theorem ma_law : mSs ⟨["script", "generator", "mates", "kinds", "door", "kind", "odd", "good", "due"], defScope s_law, none, [("_law_generator", 2, []), ("_law_drawn_order", 2, []), ("_law_odds", 1, []), ("_law_caught", 3, []), ("ring_windows", 2, []), ("how_many_rings", 2, []), ("how_many_both", 2, []), ("how_many_small", 2, [])], [], FVs, CNs⟩ b_law (defBody s_law) = true := by decide +kernel
theorem all_mk {l : PySem.W.OpenLaw} {w : World} {K : PySem.W.Frag} {h : Heap} {mg : Str → Option Value} {fa : Addr} (X : K.In h) (G : h.Ns mainGlobals mg) (hfa : mg "law" = some (.ref fa))
    {q0 : Addr} {od0 an0 : Option Addr} {sl0 : Array (Option Value)} {oc0 kV0 dc0 pm0 cd0 ct0 : Value}
    (a0 : PySem.W.nsIn K mainGlobals "_law_cell" = some (some (.ref q0))) (l0 : K.lookup q0 = some ⟨oc0, od0, .func (PySem.W.fnOf "_law_cell" "_law_cell" (defArgs s__law_cell) (defBody s__law_cell) (defScope s__law_cell) .none kV0 dc0 pm0 an0 cd0 ct0), sl0⟩) (c0 : PySem.W.codeIn K cd0 "_law_cell" = true) (k0 : PySem.W.keepIn K (.ref q0) = true)
    {q1 : Addr} {od1 an1 : Option Addr} {sl1 : Array (Option Value)} {oc1 kV1 dc1 pm1 cd1 ct1 : Value}
    (a1 : PySem.W.nsIn K mainGlobals "_law_generator" = some (some (.ref q1))) (l1 : K.lookup q1 = some ⟨oc1, od1, .func (PySem.W.fnOf "_law_generator" "_law_generator" (defArgs s__law_generator) (defBody s__law_generator) (defScope s__law_generator) .none kV1 dc1 pm1 an1 cd1 ct1), sl1⟩) (c1 : PySem.W.codeIn K cd1 "_law_generator" = true) (k1 : PySem.W.keepIn K (.ref q1) = true)
    {q2 : Addr} {od2 an2 : Option Addr} {sl2 : Array (Option Value)} {oc2 kV2 dc2 pm2 cd2 ct2 : Value}
    (a2 : PySem.W.nsIn K mainGlobals "_law_hash" = some (some (.ref q2))) (l2 : K.lookup q2 = some ⟨oc2, od2, .func (PySem.W.fnOf "_law_hash" "_law_hash" (defArgs s__law_hash) (defBody s__law_hash) (defScope s__law_hash) .none kV2 dc2 pm2 an2 cd2 ct2), sl2⟩) (c2 : PySem.W.codeIn K cd2 "_law_hash" = true) (k2 : PySem.W.keepIn K (.ref q2) = true)
    {q3 : Addr} {od3 an3 : Option Addr} {sl3 : Array (Option Value)} {oc3 kV3 dc3 pm3 cd3 ct3 : Value}
    (a3 : PySem.W.nsIn K mainGlobals "_law_random" = some (some (.ref q3))) (l3 : K.lookup q3 = some ⟨oc3, od3, .func (PySem.W.fnOf "_law_random" "_law_random" (defArgs s__law_random) (defBody s__law_random) (defScope s__law_random) .none kV3 dc3 pm3 an3 cd3 ct3), sl3⟩) (c3 : PySem.W.codeIn K cd3 "_law_random" = true) (k3 : PySem.W.keepIn K (.ref q3) = true)
    {q4 : Addr} {od4 an4 : Option Addr} {sl4 : Array (Option Value)} {oc4 kV4 dc4 pm4 cd4 ct4 : Value}
    (a4 : PySem.W.nsIn K mainGlobals "_law_drawn_order" = some (some (.ref q4))) (l4 : K.lookup q4 = some ⟨oc4, od4, .func (PySem.W.fnOf "_law_drawn_order" "_law_drawn_order" (defArgs s__law_drawn_order) (defBody s__law_drawn_order) (defScope s__law_drawn_order) .none kV4 dc4 pm4 an4 cd4 ct4), sl4⟩) (c4 : PySem.W.codeIn K cd4 "_law_drawn_order" = true) (k4 : PySem.W.keepIn K (.ref q4) = true)
    {q5 : Addr} {od5 an5 : Option Addr} {sl5 : Array (Option Value)} {oc5 kV5 dc5 pm5 cd5 ct5 : Value}
    (a5 : PySem.W.nsIn K mainGlobals "_law_odds" = some (some (.ref q5))) (l5 : K.lookup q5 = some ⟨oc5, od5, .func (PySem.W.fnOf "_law_odds" "_law_odds" (defArgs s__law_odds) (defBody s__law_odds) (defScope s__law_odds) .none kV5 dc5 pm5 an5 cd5 ct5), sl5⟩) (c5 : PySem.W.codeIn K cd5 "_law_odds" = true) (k5 : PySem.W.keepIn K (.ref q5) = true)
    {q6 : Addr} {od6 an6 : Option Addr} {sl6 : Array (Option Value)} {oc6 kV6 dc6 pm6 cd6 ct6 : Value}
    (a6 : PySem.W.nsIn K mainGlobals "is_signs" = some (some (.ref q6))) (l6 : K.lookup q6 = some ⟨oc6, od6, .func (PySem.W.fnOf "is_signs" "is_signs" (defArgs s_is_signs) (defBody s_is_signs) (defScope s_is_signs) .none kV6 dc6 pm6 an6 cd6 ct6), sl6⟩) (c6 : PySem.W.codeIn K cd6 "is_signs" = true) (k6 : PySem.W.keepIn K (.ref q6) = true)
    {q7 : Addr} {od7 an7 : Option Addr} {sl7 : Array (Option Value)} {oc7 kV7 dc7 pm7 cd7 ct7 : Value}
    (a7 : PySem.W.nsIn K mainGlobals "is_story" = some (some (.ref q7))) (l7 : K.lookup q7 = some ⟨oc7, od7, .func (PySem.W.fnOf "is_story" "is_story" (defArgs s_is_story) (defBody s_is_story) (defScope s_is_story) .none kV7 dc7 pm7 an7 cd7 ct7), sl7⟩) (c7 : PySem.W.codeIn K cd7 "is_story" = true) (k7 : PySem.W.keepIn K (.ref q7) = true)
    {q8 : Addr} {od8 an8 : Option Addr} {sl8 : Array (Option Value)} {oc8 kV8 dc8 pm8 cd8 ct8 : Value}
    (a8 : PySem.W.nsIn K mainGlobals "is_scrap" = some (some (.ref q8))) (l8 : K.lookup q8 = some ⟨oc8, od8, .func (PySem.W.fnOf "is_scrap" "is_scrap" (defArgs s_is_scrap) (defBody s_is_scrap) (defScope s_is_scrap) .none kV8 dc8 pm8 an8 cd8 ct8), sl8⟩) (c8 : PySem.W.codeIn K cd8 "is_scrap" = true) (k8 : PySem.W.keepIn K (.ref q8) = true)
    {q9 : Addr} {od9 an9 : Option Addr} {sl9 : Array (Option Value)} {oc9 kV9 dc9 pm9 cd9 ct9 : Value}
    (a9 : PySem.W.nsIn K mainGlobals "check_scrap" = some (some (.ref q9))) (l9 : K.lookup q9 = some ⟨oc9, od9, .func (PySem.W.fnOf "check_scrap" "check_scrap" (defArgs s_check_scrap) (defBody s_check_scrap) (defScope s_check_scrap) .none kV9 dc9 pm9 an9 cd9 ct9), sl9⟩) (c9 : PySem.W.codeIn K cd9 "check_scrap" = true) (k9 : PySem.W.keepIn K (.ref q9) = true)
    {q10 : Addr} {od10 an10 : Option Addr} {sl10 : Array (Option Value)} {oc10 kV10 dc10 pm10 cd10 ct10 : Value}
    (a10 : PySem.W.nsIn K mainGlobals "is_whole" = some (some (.ref q10))) (l10 : K.lookup q10 = some ⟨oc10, od10, .func (PySem.W.fnOf "is_whole" "is_whole" (defArgs s_is_whole) (defBody s_is_whole) (defScope s_is_whole) .none kV10 dc10 pm10 an10 cd10 ct10), sl10⟩) (c10 : PySem.W.codeIn K cd10 "is_whole" = true) (k10 : PySem.W.keepIn K (.ref q10) = true)
    {q11 : Addr} {od11 an11 : Option Addr} {sl11 : Array (Option Value)} {oc11 kV11 dc11 pm11 cd11 ct11 : Value}
    (a11 : PySem.W.nsIn K mainGlobals "is_count" = some (some (.ref q11))) (l11 : K.lookup q11 = some ⟨oc11, od11, .func (PySem.W.fnOf "is_count" "is_count" (defArgs s_is_count) (defBody s_is_count) (defScope s_is_count) .none kV11 dc11 pm11 an11 cd11 ct11), sl11⟩) (c11 : PySem.W.codeIn K cd11 "is_count" = true) (k11 : PySem.W.keepIn K (.ref q11) = true)
    {q12 : Addr} {od12 an12 : Option Addr} {sl12 : Array (Option Value)} {oc12 kV12 dc12 pm12 cd12 ct12 : Value}
    (a12 : PySem.W.nsIn K mainGlobals "check_number" = some (some (.ref q12))) (l12 : K.lookup q12 = some ⟨oc12, od12, .func (PySem.W.fnOf "check_number" "check_number" (defArgs s_check_number) (defBody s_check_number) (defScope s_check_number) .none kV12 dc12 pm12 an12 cd12 ct12), sl12⟩) (c12 : PySem.W.codeIn K cd12 "check_number" = true) (k12 : PySem.W.keepIn K (.ref q12) = true)
    {q13 : Addr} {od13 an13 : Option Addr} {sl13 : Array (Option Value)} {oc13 kV13 dc13 pm13 cd13 ct13 : Value}
    (a13 : PySem.W.nsIn K mainGlobals "turned_by" = some (some (.ref q13))) (l13 : K.lookup q13 = some ⟨oc13, od13, .func (PySem.W.fnOf "turned_by" "turned_by" (defArgs s_turned_by) (defBody s_turned_by) (defScope s_turned_by) .none kV13 dc13 pm13 an13 cd13 ct13), sl13⟩) (c13 : PySem.W.codeIn K cd13 "turned_by" = true) (k13 : PySem.W.keepIn K (.ref q13) = true)
    {q14 : Addr} {od14 an14 : Option Addr} {sl14 : Array (Option Value)} {oc14 kV14 dc14 pm14 cd14 ct14 : Value}
    (a14 : PySem.W.nsIn K mainGlobals "ring_turned" = some (some (.ref q14))) (l14 : K.lookup q14 = some ⟨oc14, od14, .func (PySem.W.fnOf "ring_turned" "ring_turned" (defArgs s_ring_turned) (defBody s_ring_turned) (defScope s_ring_turned) .none kV14 dc14 pm14 an14 cd14 ct14), sl14⟩) (c14 : PySem.W.codeIn K cd14 "ring_turned" = true) (k14 : PySem.W.keepIn K (.ref q14) = true)
    {q15 : Addr} {od15 an15 : Option Addr} {sl15 : Array (Option Value)} {oc15 kV15 dc15 pm15 cd15 ct15 : Value}
    (a15 : PySem.W.nsIn K mainGlobals "root_size" = some (some (.ref q15))) (l15 : K.lookup q15 = some ⟨oc15, od15, .func (PySem.W.fnOf "root_size" "root_size" (defArgs s_root_size) (defBody s_root_size) (defScope s_root_size) .none kV15 dc15 pm15 an15 cd15 ct15), sl15⟩) (c15 : PySem.W.codeIn K cd15 "root_size" = true) (k15 : PySem.W.keepIn K (.ref q15) = true)
    {q16 : Addr} {od16 an16 : Option Addr} {sl16 : Array (Option Value)} {oc16 kV16 dc16 pm16 cd16 ct16 : Value}
    (a16 : PySem.W.nsIn K mainGlobals "all_turnings" = some (some (.ref q16))) (l16 : K.lookup q16 = some ⟨oc16, od16, .func (PySem.W.fnOf "all_turnings" "all_turnings" (defArgs s_all_turnings) (defBody s_all_turnings) (defScope s_all_turnings) .none kV16 dc16 pm16 an16 cd16 ct16), sl16⟩) (c16 : PySem.W.codeIn K cd16 "all_turnings" = true) (k16 : PySem.W.keepIn K (.ref q16) = true)
    {q17 : Addr} {od17 an17 : Option Addr} {sl17 : Array (Option Value)} {oc17 kV17 dc17 pm17 cd17 ct17 : Value}
    (a17 : PySem.W.nsIn K mainGlobals "ring_turnings" = some (some (.ref q17))) (l17 : K.lookup q17 = some ⟨oc17, od17, .func (PySem.W.fnOf "ring_turnings" "ring_turnings" (defArgs s_ring_turnings) (defBody s_ring_turnings) (defScope s_ring_turnings) .none kV17 dc17 pm17 an17 cd17 ct17), sl17⟩) (c17 : PySem.W.codeIn K cd17 "ring_turnings" = true) (k17 : PySem.W.keepIn K (.ref q17) = true)
    {q18 : Addr} {od18 an18 : Option Addr} {sl18 : Array (Option Value)} {oc18 kV18 dc18 pm18 cd18 ct18 : Value}
    (a18 : PySem.W.nsIn K mainGlobals "least_turning" = some (some (.ref q18))) (l18 : K.lookup q18 = some ⟨oc18, od18, .func (PySem.W.fnOf "least_turning" "least_turning" (defArgs s_least_turning) (defBody s_least_turning) (defScope s_least_turning) .none kV18 dc18 pm18 an18 cd18 ct18), sl18⟩) (c18 : PySem.W.codeIn K cd18 "least_turning" = true) (k18 : PySem.W.keepIn K (.ref q18) = true)
    {q19 : Addr} {od19 an19 : Option Addr} {sl19 : Array (Option Value)} {oc19 kV19 dc19 pm19 cd19 ct19 : Value}
    (a19 : PySem.W.nsIn K mainGlobals "turns_to" = some (some (.ref q19))) (l19 : K.lookup q19 = some ⟨oc19, od19, .func (PySem.W.fnOf "turns_to" "turns_to" (defArgs s_turns_to) (defBody s_turns_to) (defScope s_turns_to) .none kV19 dc19 pm19 an19 cd19 ct19), sl19⟩) (c19 : PySem.W.codeIn K cd19 "turns_to" = true) (k19 : PySem.W.keepIn K (.ref q19) = true)
    {q20 : Addr} {od20 an20 : Option Addr} {sl20 : Array (Option Value)} {oc20 kV20 dc20 pm20 cd20 ct20 : Value}
    (a20 : PySem.W.nsIn K mainGlobals "root_of" = some (some (.ref q20))) (l20 : K.lookup q20 = some ⟨oc20, od20, .func (PySem.W.fnOf "root_of" "root_of" (defArgs s_root_of) (defBody s_root_of) (defScope s_root_of) .none kV20 dc20 pm20 an20 cd20 ct20), sl20⟩) (c20 : PySem.W.codeIn K cd20 "root_of" = true) (k20 : PySem.W.keepIn K (.ref q20) = true)
    {q21 : Addr} {od21 an21 : Option Addr} {sl21 : Array (Option Value)} {oc21 kV21 dc21 pm21 cd21 ct21 : Value}
    (a21 : PySem.W.nsIn K mainGlobals "check_ring_size" = some (some (.ref q21))) (l21 : K.lookup q21 = some ⟨oc21, od21, .func (PySem.W.fnOf "check_ring_size" "check_ring_size" (defArgs s_check_ring_size) (defBody s_check_ring_size) (defScope s_check_ring_size) .none kV21 dc21 pm21 an21 cd21 ct21), sl21⟩) (c21 : PySem.W.codeIn K cd21 "check_ring_size" = true) (k21 : PySem.W.keepIn K (.ref q21) = true)
    {q22 : Addr} {od22 an22 : Option Addr} {sl22 : Array (Option Value)} {oc22 kV22 dc22 pm22 cd22 ct22 : Value}
    (a22 : PySem.W.nsIn K mainGlobals "windows_round" = some (some (.ref q22))) (l22 : K.lookup q22 = some ⟨oc22, od22, .func (PySem.W.fnOf "windows_round" "windows_round" (defArgs s_windows_round) (defBody s_windows_round) (defScope s_windows_round) .none kV22 dc22 pm22 an22 cd22 ct22), sl22⟩) (c22 : PySem.W.codeIn K cd22 "windows_round" = true) (k22 : PySem.W.keepIn K (.ref q22) = true)
    {q23 : Addr} {od23 an23 : Option Addr} {sl23 : Array (Option Value)} {oc23 kV23 dc23 pm23 cd23 ct23 : Value}
    (a23 : PySem.W.nsIn K mainGlobals "ring_windows" = some (some (.ref q23))) (l23 : K.lookup q23 = some ⟨oc23, od23, .func (PySem.W.fnOf "ring_windows" "ring_windows" (defArgs s_ring_windows) (defBody s_ring_windows) (defScope s_ring_windows) .none kV23 dc23 pm23 an23 cd23 ct23), sl23⟩) (c23 : PySem.W.codeIn K cd23 "ring_windows" = true) (k23 : PySem.W.keepIn K (.ref q23) = true)
    {q24 : Addr} {od24 an24 : Option Addr} {sl24 : Array (Option Value)} {oc24 kV24 dc24 pm24 cd24 ct24 : Value}
    (a24 : PySem.W.nsIn K mainGlobals "ring_counts" = some (some (.ref q24))) (l24 : K.lookup q24 = some ⟨oc24, od24, .func (PySem.W.fnOf "ring_counts" "ring_counts" (defArgs s_ring_counts) (defBody s_ring_counts) (defScope s_ring_counts) .none kV24 dc24 pm24 an24 cd24 ct24), sl24⟩) (c24 : PySem.W.codeIn K cd24 "ring_counts" = true) (k24 : PySem.W.keepIn K (.ref q24) = true)
    {q25 : Addr} {od25 an25 : Option Addr} {sl25 : Array (Option Value)} {oc25 kV25 dc25 pm25 cd25 ct25 : Value}
    (a25 : PySem.W.nsIn K mainGlobals "is_least_end" = some (some (.ref q25))) (l25 : K.lookup q25 = some ⟨oc25, od25, .func (PySem.W.fnOf "is_least_end" "is_least_end" (defArgs s_is_least_end) (defBody s_is_least_end) (defScope s_is_least_end) .none kV25 dc25 pm25 an25 cd25 ct25), sl25⟩) (c25 : PySem.W.codeIn K cd25 "is_least_end" = true) (k25 : PySem.W.keepIn K (.ref q25) = true)
    {q26 : Addr} {od26 an26 : Option Addr} {sl26 : Array (Option Value)} {oc26 kV26 dc26 pm26 cd26 ct26 : Value}
    (a26 : PySem.W.nsIn K mainGlobals "is_small" = some (some (.ref q26))) (l26 : K.lookup q26 = some ⟨oc26, od26, .func (PySem.W.fnOf "is_small" "is_small" (defArgs s_is_small) (defBody s_is_small) (defScope s_is_small) .none kV26 dc26 pm26 an26 cd26 ct26), sl26⟩) (c26 : PySem.W.codeIn K cd26 "is_small" = true) (k26 : PySem.W.keepIn K (.ref q26) = true)
    {q27 : Addr} {od27 an27 : Option Addr} {sl27 : Array (Option Value)} {oc27 kV27 dc27 pm27 cd27 ct27 : Value}
    (a27 : PySem.W.nsIn K mainGlobals "small_run" = some (some (.ref q27))) (l27 : K.lookup q27 = some ⟨oc27, od27, .func (PySem.W.fnOf "small_run" "small_run" (defArgs s_small_run) (defBody s_small_run) (defScope s_small_run) .none kV27 dc27 pm27 an27 cd27 ct27), sl27⟩) (c27 : PySem.W.codeIn K cd27 "small_run" = true) (k27 : PySem.W.keepIn K (.ref q27) = true)
    {q28 : Addr} {od28 an28 : Option Addr} {sl28 : Array (Option Value)} {oc28 kV28 dc28 pm28 cd28 ct28 : Value}
    (a28 : PySem.W.nsIn K mainGlobals "small_parts" = some (some (.ref q28))) (l28 : K.lookup q28 = some ⟨oc28, od28, .func (PySem.W.fnOf "small_parts" "small_parts" (defArgs s_small_parts) (defBody s_small_parts) (defScope s_small_parts) .none kV28 dc28 pm28 an28 cd28 ct28), sl28⟩) (c28 : PySem.W.codeIn K cd28 "small_parts" = true) (k28 : PySem.W.keepIn K (.ref q28) = true)
    {q29 : Addr} {od29 an29 : Option Addr} {sl29 : Array (Option Value)} {oc29 kV29 dc29 pm29 cd29 ct29 : Value}
    (a29 : PySem.W.nsIn K mainGlobals "divisors_of" = some (some (.ref q29))) (l29 : K.lookup q29 = some ⟨oc29, od29, .func (PySem.W.fnOf "divisors_of" "divisors_of" (defArgs s_divisors_of) (defBody s_divisors_of) (defScope s_divisors_of) .none kV29 dc29 pm29 an29 cd29 ct29), sl29⟩) (c29 : PySem.W.codeIn K cd29 "divisors_of" = true) (k29 : PySem.W.keepIn K (.ref q29) = true)
    {q30 : Addr} {od30 an30 : Option Addr} {sl30 : Array (Option Value)} {oc30 kV30 dc30 pm30 cd30 ct30 : Value}
    (a30 : PySem.W.nsIn K mainGlobals "power_of" = some (some (.ref q30))) (l30 : K.lookup q30 = some ⟨oc30, od30, .func (PySem.W.fnOf "power_of" "power_of" (defArgs s_power_of) (defBody s_power_of) (defScope s_power_of) .none kV30 dc30 pm30 an30 cd30 ct30), sl30⟩) (c30 : PySem.W.codeIn K cd30 "power_of" = true) (k30 : PySem.W.keepIn K (.ref q30) = true)
    {q31 : Addr} {od31 an31 : Option Addr} {sl31 : Array (Option Value)} {oc31 kV31 dc31 pm31 cd31 ct31 : Value}
    (a31 : PySem.W.nsIn K mainGlobals "small_numbers" = some (some (.ref q31))) (l31 : K.lookup q31 = some ⟨oc31, od31, .func (PySem.W.fnOf "small_numbers" "small_numbers" (defArgs s_small_numbers) (defBody s_small_numbers) (defScope s_small_numbers) .none kV31 dc31 pm31 an31 cd31 ct31), sl31⟩) (c31 : PySem.W.codeIn K cd31 "small_numbers" = true) (k31 : PySem.W.keepIn K (.ref q31) = true)
    {q32 : Addr} {od32 an32 : Option Addr} {sl32 : Array (Option Value)} {oc32 kV32 dc32 pm32 cd32 ct32 : Value}
    (a32 : PySem.W.nsIn K mainGlobals "rings_of" = some (some (.ref q32))) (l32 : K.lookup q32 = some ⟨oc32, od32, .func (PySem.W.fnOf "rings_of" "rings_of" (defArgs s_rings_of) (defBody s_rings_of) (defScope s_rings_of) .none kV32 dc32 pm32 an32 cd32 ct32), sl32⟩) (c32 : PySem.W.codeIn K cd32 "rings_of" = true) (k32 : PySem.W.keepIn K (.ref q32) = true)
    {q33 : Addr} {od33 an33 : Option Addr} {sl33 : Array (Option Value)} {oc33 kV33 dc33 pm33 cd33 ct33 : Value}
    (a33 : PySem.W.nsIn K mainGlobals "how_many_rings" = some (some (.ref q33))) (l33 : K.lookup q33 = some ⟨oc33, od33, .func (PySem.W.fnOf "how_many_rings" "how_many_rings" (defArgs s_how_many_rings) (defBody s_how_many_rings) (defScope s_how_many_rings) .none kV33 dc33 pm33 an33 cd33 ct33), sl33⟩) (c33 : PySem.W.codeIn K cd33 "how_many_rings" = true) (k33 : PySem.W.keepIn K (.ref q33) = true)
    {q34 : Addr} {od34 an34 : Option Addr} {sl34 : Array (Option Value)} {oc34 kV34 dc34 pm34 cd34 ct34 : Value}
    (a34 : PySem.W.nsIn K mainGlobals "how_many_both" = some (some (.ref q34))) (l34 : K.lookup q34 = some ⟨oc34, od34, .func (PySem.W.fnOf "how_many_both" "how_many_both" (defArgs s_how_many_both) (defBody s_how_many_both) (defScope s_how_many_both) .none kV34 dc34 pm34 an34 cd34 ct34), sl34⟩) (c34 : PySem.W.codeIn K cd34 "how_many_both" = true) (k34 : PySem.W.keepIn K (.ref q34) = true)
    {q35 : Addr} {od35 an35 : Option Addr} {sl35 : Array (Option Value)} {oc35 kV35 dc35 pm35 cd35 ct35 : Value}
    (a35 : PySem.W.nsIn K mainGlobals "how_many_small" = some (some (.ref q35))) (l35 : K.lookup q35 = some ⟨oc35, od35, .func (PySem.W.fnOf "how_many_small" "how_many_small" (defArgs s_how_many_small) (defBody s_how_many_small) (defScope s_how_many_small) .none kV35 dc35 pm35 an35 cd35 ct35), sl35⟩) (c35 : PySem.W.codeIn K cd35 "how_many_small" = true) (k35 : PySem.W.keepIn K (.ref q35) = true)
    {q36 : Addr} {od36 an36 : Option Addr} {sl36 : Array (Option Value)} {oc36 kV36 dc36 pm36 cd36 ct36 : Value}
    (a36 : PySem.W.nsIn K mainGlobals "is_sign" = some (some (.ref q36))) (l36 : K.lookup q36 = some ⟨oc36, od36, .func (PySem.W.fnOf "is_sign" "is_sign" (defArgs s_is_sign) (defBody s_is_sign) (defScope s_is_sign) .none kV36 dc36 pm36 an36 cd36 ct36), sl36⟩) (c36 : PySem.W.codeIn K cd36 "is_sign" = true) (k36 : PySem.W.keepIn K (.ref q36) = true)
    {q37 : Addr} {od37 an37 : Option Addr} {sl37 : Array (Option Value)} {oc37 kV37 dc37 pm37 cd37 ct37 : Value}
    (a37 : PySem.W.nsIn K mainGlobals "are_mates" = some (some (.ref q37))) (l37 : K.lookup q37 = some ⟨oc37, od37, .func (PySem.W.fnOf "are_mates" "are_mates" (defArgs s_are_mates) (defBody s_are_mates) (defScope s_are_mates) .none kV37 dc37 pm37 an37 cd37 ct37), sl37⟩) (c37 : PySem.W.codeIn K cd37 "are_mates" = true) (k37 : PySem.W.keepIn K (.ref q37) = true)
    {q38 : Addr} {od38 an38 : Option Addr} {sl38 : Array (Option Value)} {oc38 kV38 dc38 pm38 cd38 ct38 : Value}
    (a38 : PySem.W.nsIn K mainGlobals "check_mates" = some (some (.ref q38))) (l38 : K.lookup q38 = some ⟨oc38, od38, .func (PySem.W.fnOf "check_mates" "check_mates" (defArgs s_check_mates) (defBody s_check_mates) (defScope s_check_mates) .none kV38 dc38 pm38 an38 cd38 ct38), sl38⟩) (c38 : PySem.W.codeIn K cd38 "check_mates" = true) (k38 : PySem.W.keepIn K (.ref q38) = true)
    {q39 : Addr} {od39 an39 : Option Addr} {sl39 : Array (Option Value)} {oc39 kV39 dc39 pm39 cd39 ct39 : Value}
    (a39 : PySem.W.nsIn K mainGlobals "check_mated" = some (some (.ref q39))) (l39 : K.lookup q39 = some ⟨oc39, od39, .func (PySem.W.fnOf "check_mated" "check_mated" (defArgs s_check_mated) (defBody s_check_mated) (defScope s_check_mated) .none kV39 dc39 pm39 an39 cd39 ct39), sl39⟩) (c39 : PySem.W.codeIn K cd39 "check_mated" = true) (k39 : PySem.W.keepIn K (.ref q39) = true)
    {q40 : Addr} {od40 an40 : Option Addr} {sl40 : Array (Option Value)} {oc40 kV40 dc40 pm40 cd40 ct40 : Value}
    (a40 : PySem.W.nsIn K mainGlobals "mirror_in" = some (some (.ref q40))) (l40 : K.lookup q40 = some ⟨oc40, od40, .func (PySem.W.fnOf "mirror_in" "mirror_in" (defArgs s_mirror_in) (defBody s_mirror_in) (defScope s_mirror_in) .none kV40 dc40 pm40 an40 cd40 ct40), sl40⟩) (c40 : PySem.W.codeIn K cd40 "mirror_in" = true) (k40 : PySem.W.keepIn K (.ref q40) = true)
    {q41 : Addr} {od41 an41 : Option Addr} {sl41 : Array (Option Value)} {oc41 kV41 dc41 pm41 cd41 ct41 : Value}
    (a41 : PySem.W.nsIn K mainGlobals "mirror_of" = some (some (.ref q41))) (l41 : K.lookup q41 = some ⟨oc41, od41, .func (PySem.W.fnOf "mirror_of" "mirror_of" (defArgs s_mirror_of) (defBody s_mirror_of) (defScope s_mirror_of) .none kV41 dc41 pm41 an41 cd41 ct41), sl41⟩) (c41 : PySem.W.codeIn K cd41 "mirror_of" = true) (k41 : PySem.W.keepIn K (.ref q41) = true)
    {q42 : Addr} {od42 an42 : Option Addr} {sl42 : Array (Option Value)} {oc42 kV42 dc42 pm42 cd42 ct42 : Value}
    (a42 : PySem.W.nsIn K mainGlobals "is_even" = some (some (.ref q42))) (l42 : K.lookup q42 = some ⟨oc42, od42, .func (PySem.W.fnOf "is_even" "is_even" (defArgs s_is_even) (defBody s_is_even) (defScope s_is_even) .none kV42 dc42 pm42 an42 cd42 ct42), sl42⟩) (c42 : PySem.W.codeIn K cd42 "is_even" = true) (k42 : PySem.W.keepIn K (.ref q42) = true)
    {q43 : Addr} {od43 an43 : Option Addr} {sl43 : Array (Option Value)} {oc43 kV43 dc43 pm43 cd43 ct43 : Value}
    (a43 : PySem.W.nsIn K mainGlobals "check_ring" = some (some (.ref q43))) (l43 : K.lookup q43 = some ⟨oc43, od43, .func (PySem.W.fnOf "check_ring" "check_ring" (defArgs s_check_ring) (defBody s_check_ring) (defScope s_check_ring) .none kV43 dc43 pm43 an43 cd43 ct43), sl43⟩) (c43 : PySem.W.codeIn K cd43 "check_ring" = true) (k43 : PySem.W.keepIn K (.ref q43) = true)
    {q44 : Addr} {od44 an44 : Option Addr} {sl44 : Array (Option Value)} {oc44 kV44 dc44 pm44 cd44 ct44 : Value}
    (a44 : PySem.W.nsIn K mainGlobals "is_even_ring" = some (some (.ref q44))) (l44 : K.lookup q44 = some ⟨oc44, od44, .func (PySem.W.fnOf "is_even_ring" "is_even_ring" (defArgs s_is_even_ring) (defBody s_is_even_ring) (defScope s_is_even_ring) .none kV44 dc44 pm44 an44 cd44 ct44), sl44⟩) (c44 : PySem.W.codeIn K cd44 "is_even_ring" = true) (k44 : PySem.W.keepIn K (.ref q44) = true)
    {q45 : Addr} {od45 an45 : Option Addr} {sl45 : Array (Option Value)} {oc45 kV45 dc45 pm45 cd45 ct45 : Value}
    (a45 : PySem.W.nsIn K mainGlobals "widest_at" = some (some (.ref q45))) (l45 : K.lookup q45 = some ⟨oc45, od45, .func (PySem.W.fnOf "widest_at" "widest_at" (defArgs s_widest_at) (defBody s_widest_at) (defScope s_widest_at) .none kV45 dc45 pm45 an45 cd45 ct45), sl45⟩) (c45 : PySem.W.codeIn K cd45 "widest_at" = true) (k45 : PySem.W.keepIn K (.ref q45) = true)
    {q46 : Addr} {od46 an46 : Option Addr} {sl46 : Array (Option Value)} {oc46 kV46 dc46 pm46 cd46 ct46 : Value}
    (a46 : PySem.W.nsIn K mainGlobals "even_stretches" = some (some (.ref q46))) (l46 : K.lookup q46 = some ⟨oc46, od46, .func (PySem.W.fnOf "even_stretches" "even_stretches" (defArgs s_even_stretches) (defBody s_even_stretches) (defScope s_even_stretches) .none kV46 dc46 pm46 an46 cd46 ct46), sl46⟩) (c46 : PySem.W.codeIn K cd46 "even_stretches" = true) (k46 : PySem.W.keepIn K (.ref q46) = true)
    {q47 : Addr} {od47 an47 : Option Addr} {sl47 : Array (Option Value)} {oc47 kV47 dc47 pm47 cd47 ct47 : Value}
    (a47 : PySem.W.nsIn K mainGlobals "least_reading" = some (some (.ref q47))) (l47 : K.lookup q47 = some ⟨oc47, od47, .func (PySem.W.fnOf "least_reading" "least_reading" (defArgs s_least_reading) (defBody s_least_reading) (defScope s_least_reading) .none kV47 dc47 pm47 an47 cd47 ct47), sl47⟩) (c47 : PySem.W.codeIn K cd47 "least_reading" = true) (k47 : PySem.W.keepIn K (.ref q47) = true)
    {q48 : Addr} {od48 an48 : Option Addr} {sl48 : Array (Option Value)} {oc48 kV48 dc48 pm48 cd48 ct48 : Value}
    (a48 : PySem.W.nsIn K mainGlobals "check_full_signs" = some (some (.ref q48))) (l48 : K.lookup q48 = some ⟨oc48, od48, .func (PySem.W.fnOf "check_full_signs" "check_full_signs" (defArgs s_check_full_signs) (defBody s_check_full_signs) (defScope s_check_full_signs) .none kV48 dc48 pm48 an48 cd48 ct48), sl48⟩) (c48 : PySem.W.codeIn K cd48 "check_full_signs" = true) (k48 : PySem.W.keepIn K (.ref q48) = true)
    {q49 : Addr} {od49 an49 : Option Addr} {sl49 : Array (Option Value)} {oc49 kV49 dc49 pm49 cd49 ct49 : Value}
    (a49 : PySem.W.nsIn K mainGlobals "next_small" = some (some (.ref q49))) (l49 : K.lookup q49 = some ⟨oc49, od49, .func (PySem.W.fnOf "next_small" "next_small" (defArgs s_next_small) (defBody s_next_small) (defScope s_next_small) .none kV49 dc49 pm49 an49 cd49 ct49), sl49⟩) (c49 : PySem.W.codeIn K cd49 "next_small" = true) (k49 : PySem.W.keepIn K (.ref q49) = true)
    {q50 : Addr} {od50 an50 : Option Addr} {sl50 : Array (Option Value)} {oc50 kV50 dc50 pm50 cd50 ct50 : Value}
    (a50 : PySem.W.nsIn K mainGlobals "full_ring" = some (some (.ref q50))) (l50 : K.lookup q50 = some ⟨oc50, od50, .func (PySem.W.fnOf "full_ring" "full_ring" (defArgs s_full_ring) (defBody s_full_ring) (defScope s_full_ring) .none kV50 dc50 pm50 an50 cd50 ct50), sl50⟩) (c50 : PySem.W.codeIn K cd50 "full_ring" = true) (k50 : PySem.W.keepIn K (.ref q50) = true)
    {q51 : Addr} {od51 an51 : Option Addr} {sl51 : Array (Option Value)} {oc51 kV51 dc51 pm51 cd51 ct51 : Value}
    (a51 : PySem.W.nsIn K mainGlobals "is_full_ring" = some (some (.ref q51))) (l51 : K.lookup q51 = some ⟨oc51, od51, .func (PySem.W.fnOf "is_full_ring" "is_full_ring" (defArgs s_is_full_ring) (defBody s_is_full_ring) (defScope s_is_full_ring) .none kV51 dc51 pm51 an51 cd51 ct51), sl51⟩) (c51 : PySem.W.codeIn K cd51 "is_full_ring" = true) (k51 : PySem.W.keepIn K (.ref q51) = true)
    {q52 : Addr} {od52 an52 : Option Addr} {sl52 : Array (Option Value)} {oc52 kV52 dc52 pm52 cd52 ct52 : Value}
    (a52 : PySem.W.nsIn K mainGlobals "how_many_full" = some (some (.ref q52))) (l52 : K.lookup q52 = some ⟨oc52, od52, .func (PySem.W.fnOf "how_many_full" "how_many_full" (defArgs s_how_many_full) (defBody s_how_many_full) (defScope s_how_many_full) .none kV52 dc52 pm52 an52 cd52 ct52), sl52⟩) (c52 : PySem.W.codeIn K cd52 "how_many_full" = true) (k52 : PySem.W.keepIn K (.ref q52) = true)
    {q53 : Addr} {od53 an53 : Option Addr} {sl53 : Array (Option Value)} {oc53 kV53 dc53 pm53 cd53 ct53 : Value}
    (a53 : PySem.W.nsIn K mainGlobals "_law_further" = some (some (.ref q53))) (l53 : K.lookup q53 = some ⟨oc53, od53, .func (PySem.W.fnOf "_law_further" "_law_further" (defArgs s__law_further) (defBody s__law_further) (defScope s__law_further) .none kV53 dc53 pm53 an53 cd53 ct53), sl53⟩) (c53 : PySem.W.codeIn K cd53 "_law_further" = true) (k53 : PySem.W.keepIn K (.ref q53) = true)
    {q54 : Addr} {od54 an54 : Option Addr} {sl54 : Array (Option Value)} {oc54 kV54 dc54 pm54 cd54 ct54 : Value}
    (a54 : PySem.W.nsIn K mainGlobals "_law_call" = some (some (.ref q54))) (l54 : K.lookup q54 = some ⟨oc54, od54, .func (PySem.W.fnOf "_law_call" "_law_call" (defArgs s__law_call) (defBody s__law_call) (defScope s__law_call) .none kV54 dc54 pm54 an54 cd54 ct54), sl54⟩) (c54 : PySem.W.codeIn K cd54 "_law_call" = true) (k54 : PySem.W.keepIn K (.ref q54) = true)
    {q55 : Addr} {od55 an55 : Option Addr} {sl55 : Array (Option Value)} {oc55 kV55 dc55 pm55 cd55 ct55 : Value}
    (a55 : PySem.W.nsIn K mainGlobals "_law_caught" = some (some (.ref q55))) (l55 : K.lookup q55 = some ⟨oc55, od55, .func (PySem.W.fnOf "_law_caught" "_law_caught" (defArgs s__law_caught) (defBody s__law_caught) (defScope s__law_caught) .none kV55 dc55 pm55 an55 cd55 ct55), sl55⟩) (c55 : PySem.W.codeIn K cd55 "_law_caught" = true) (k55 : PySem.W.keepIn K (.ref q55) = true)
    {q56 : Addr} {od56 an56 : Option Addr} {sl56 : Array (Option Value)} {oc56 kV56 dc56 pm56 cd56 ct56 : Value}
    (a56 : PySem.W.nsIn K mainGlobals "law" = some (some (.ref q56))) (l56 : K.lookup q56 = some ⟨oc56, od56, .func (PySem.W.fnOf "law" "law" (defArgs s_law) (defBody s_law) (defScope s_law) .none kV56 dc56 pm56 an56 cd56 ct56), sl56⟩) (c56 : PySem.W.codeIn K cd56 "law" = true) (k56 : PySem.W.keepIn K (.ref q56) = true)
    {gt0 : Tok} (y0 : PySem.W.nsIn K mainGlobals "SMALL" = some (some (.str ⟨#[97, 98, 99, 100, 101, 102, 103, 104, 105, 106, 107, 108, 109, 110, 111, 112, 113, 114, 115, 116, 117, 118, 119, 120, 121, 122]⟩ gt0)))
    (z0 : PySem.W.nsIn K mainGlobals "len" = some none)
    (z1 : PySem.W.nsIn K mainGlobals "int" = some none)
    (z2 : PySem.W.nsIn K mainGlobals "max" = some none)
    (z3 : PySem.W.nsIn K mainGlobals "min" = some none)
    (z4 : PySem.W.nsIn K mainGlobals "abs" = some none)
    (z5 : PySem.W.nsIn K mainGlobals "repr" = some none)
    (z6 : PySem.W.nsIn K mainGlobals "sorted" = some none)
    (z7 : PySem.W.nsIn K mainGlobals "str" = some none)
    (z8 : PySem.W.nsIn K mainGlobals "sum" = some none)
    (z9 : PySem.W.nsIn K mainGlobals "all" = some none)
    (z10 : PySem.W.nsIn K mainGlobals "any" = some none)
    (z11 : PySem.W.nsIn K mainGlobals "isinstance" = some none)
    (z12 : PySem.W.nsIn K mainGlobals "range" = some none)
    (z13 : PySem.W.nsIn K mainGlobals "zip" = some none)
    (z14 : PySem.W.nsIn K mainGlobals "enumerate" = some none)
    (z15 : PySem.W.nsIn K mainGlobals "list" = some none)
    (z16 : PySem.W.nsIn K mainGlobals "tuple" = some none)
    (z17 : PySem.W.nsIn K mainGlobals "bool" = some none)
    (z18 : PySem.W.nsIn K mainGlobals "dict" = some none)
    (z19 : PySem.W.nsIn K mainGlobals "ValueError" = some none)
    (z20 : PySem.W.nsIn K mainGlobals "set" = some none)
    (z21 : PySem.W.nsIn K mainGlobals "reversed" = some none)
    {fI Cd : Addr} {qn0 : Str} {pa0 : Arguments} {sc0 : Scope} {dV0 kV0x doc0 pm0x : Value} {an0x : Option Addr} {cda : Addr} {ct0x oc0x : Value} {cc : Addr} {od0x : Option Addr} {sl0x : Array (Option Value)} {p0 p1 p2 p3 p4 p5 p6 p7 p8 p9 : Pos} {nm0 : Str} {ar0 : Arg} {ccl0 cl0 : Value} {cdd0 cld0 : Option Addr} {vs0 : Array Value} {ccs0 csl0 : Array (Option Value)} {fil0 : Str} {tf0 : Tok} {cdD0 : ClassData}
    (inI : PySem.W.findIn K (.ref Cd) "__init__" = some (some (.ref fI)))
    (lI : K.lookup fI = some ⟨oc0x, od0x, .func (PySem.W.ksFn nm0 qn0 pa0 (PV.initBody p0 p1 p2 p3 p4 p5 p6 p7 p8 p9) sc0 dV0 kV0x doc0 pm0x an0x (.ref cda) ct0x cc), sl0x⟩)
    (cI : PySem.W.codeIn K (.ref cda) qn0 = true) (lcd : K.lookup cda = some ⟨ccl0, cdd0, .fields vs0, ccs0⟩) (hvs : vs0[2]? = some (.str fil0 tf0)) (hfil : ((l.prog.main.file : Str) == fil0) = true) (lcc : K.lookup cc = some ⟨cl0, cld0, .cell (some (.ref Cd)), csl0⟩) (cD : PySem.W.clsIn K Cd = some cdD0) (hln : (p2.endLine == p4.line) = true)
    (hpa : (pa0.posonlyargs ++ pa0.args).head? = some ar0) (har : ar0.arg = "self") (hsc : NdefX.nscB ["self", "value", "__class__"] ["self", "value"] ["__class__"] sc0 = true) (hsu : sc0.names.lookup ("super" : Str) = some .globalImplicit) (htop : (l.prog.main.scope.names.lookup ("super" : Str)).isSome = false)
    (msu : PySem.W.nsIn K mainGlobals "super" = some none) (opq : PySem.W.nsIn K cStatics "thirdparty.any" = some none) (tyI : PySem.W.typeIn K (.ref fI) = some (.type "function")) (gtO : PySem.W.specialIn K (.builtin "object.__class__") "__get__" = some (some (.builtin "getset_descriptor.__get__"))) (tkO : PySem.W.takesIn K (.builtin "object.__class__") = some true)
    (bI : ∀ us : List Value, us.length = 2 → bindArgs (PySem.W.ksFn nm0 qn0 pa0 (PV.initBody p0 p1 p2 p3 p4 p5 p6 p7 p8 p9) sc0 dV0 kV0x doc0 pm0x an0x (.ref cda) ct0x cc) ⟨us, []⟩ = pure ((["self", "value"] : List Str).zip us))
    {nmC0 qC0 : Str} {NC0 : Addr} {bsC0 bmC0 : List Value} {snC0 : List Str} {subC0 : List Value} {abC0 : Bool} {colC0 : Option Bool} {ddC0 : Option Addr} {m0C0 m1C0 m2C0 m3C0 m5C0 : Option Value}
    (aC0 : PySem.W.nsIn K mainGlobals "ScrapError" = some (some (.ref Cd))) (xL0 : K.lookup Cd = some (excClassObj nmC0 qC0 Cd NC0 bsC0 bmC0 true snC0 subC0 abC0 colC0 ddC0 m0C0 m1C0 m2C0 m3C0 m5C0 "ValueError.__new__")) (hb0 : PySem.HandSPX.refsVE bmC0 = true) (bC0 : PV.clsB K Cd fI Cd = true)
    {Cx1 : Addr}
    {nmC1 qC1 : Str} {NC1 : Addr} {bsC1 bmC1 : List Value} {snC1 : List Str} {subC1 : List Value} {abC1 : Bool} {colC1 : Option Bool} {ddC1 : Option Addr} {m0C1 m1C1 m2C1 m3C1 m5C1 : Option Value}
    (aC1 : PySem.W.nsIn K mainGlobals "InvalidNumber" = some (some (.ref Cx1))) (xL1 : K.lookup Cx1 = some (excClassObj nmC1 qC1 Cx1 NC1 bsC1 bmC1 true snC1 subC1 abC1 colC1 ddC1 m0C1 m1C1 m2C1 m3C1 m5C1 "ValueError.__new__")) (hb1 : PySem.HandSPX.refsVE bmC1 = true) (bC1 : PV.clsB K Cd fI Cx1 = true)
    {Cx2 : Addr}
    {nmC2 qC2 : Str} {NC2 : Addr} {bsC2 bmC2 : List Value} {snC2 : List Str} {subC2 : List Value} {abC2 : Bool} {colC2 : Option Bool} {ddC2 : Option Addr} {m0C2 m1C2 m2C2 m3C2 m5C2 : Option Value}
    (aC2 : PySem.W.nsIn K mainGlobals "InvalidSigns" = some (some (.ref Cx2))) (xL2 : K.lookup Cx2 = some (excClassObj nmC2 qC2 Cx2 NC2 bsC2 bmC2 true snC2 subC2 abC2 colC2 ddC2 m0C2 m1C2 m2C2 m3C2 m5C2 "ValueError.__new__")) (hb2 : PySem.HandSPX.refsVE bmC2 = true) (bC2 : PV.clsB K Cd fI Cx2 = true)
    {Cx3 : Addr}
    {nmC3 qC3 : Str} {NC3 : Addr} {bsC3 bmC3 : List Value} {snC3 : List Str} {subC3 : List Value} {abC3 : Bool} {colC3 : Option Bool} {ddC3 : Option Addr} {m0C3 m1C3 m2C3 m3C3 m5C3 : Option Value}
    (aC3 : PySem.W.nsIn K mainGlobals "InvalidScrap" = some (some (.ref Cx3))) (xL3 : K.lookup Cx3 = some (excClassObj nmC3 qC3 Cx3 NC3 bsC3 bmC3 true snC3 subC3 abC3 colC3 ddC3 m0C3 m1C3 m2C3 m3C3 m5C3 "ValueError.__new__")) (hb3 : PySem.HandSPX.refsVE bmC3 = true) (bC3 : PV.clsB K Cd fI Cx3 = true)
    (prC : PV.prB K [Cd, Cx1, Cx2, Cx3] = true)
    (dg : PySem.W.nsIn K cStatics "sys.int_max_str_digits" = some none)
    : ∃ (fd : FuncData) (M : Nm), (∀ (s : Shared) (u : Value), BindsTo s fd ⟨[u], []⟩ [("script", u)]) ∧ M.K = K ∧ Asked l.prog w K M f_law 14 fa fd "script" mg := by
  have e := hfa.symm.trans (PySem.W.mg_of X G a56)
  cases e
  have blt : Fa K mg := by
    refine ⟨?_, dg⟩
    intro x hx
    simp only [bltN, List.mem_cons, List.not_mem_nil, or_false] at hx
    rcases hx with rfl | rfl | rfl | rfl | rfl | rfl | rfl | rfl | rfl | rfl | rfl | rfl | rfl | rfl | rfl | rfl | rfl | rfl | rfl | rfl | rfl | rfl
    · exact PySem.W.mg_none_of X G z0
    · exact PySem.W.mg_none_of X G z1
    · exact PySem.W.mg_none_of X G z2
    · exact PySem.W.mg_none_of X G z3
    · exact PySem.W.mg_none_of X G z4
    · exact PySem.W.mg_none_of X G z5
    · exact PySem.W.mg_none_of X G z6
    · exact PySem.W.mg_none_of X G z7
    · exact PySem.W.mg_none_of X G z8
    · exact PySem.W.mg_none_of X G z9
    · exact PySem.W.mg_none_of X G z10
    · exact PySem.W.mg_none_of X G z11
    · exact PySem.W.mg_none_of X G z12
    · exact PySem.W.mg_none_of X G z13
    · exact PySem.W.mg_none_of X G z14
    · exact PySem.W.mg_none_of X G z15
    · exact PySem.W.mg_none_of X G z16
    · exact PySem.W.mg_none_of X G z17
    · exact PySem.W.mg_none_of X G z18
    · exact PySem.W.mg_none_of X G z19
    · exact PySem.W.mg_none_of X G z20
    · exact PySem.W.mg_none_of X G z21
  have tx : TxF l.prog K mg ⟨K, PV.mFn [], PV.mCls [Cd, Cx1, Cx2, Cx3]⟩ FVs CNs := by
    refine tx_mk FvL.nil (ClsL.cons (PySem.W.mg_of X G aC0) ⟨_, _, _, _, _, _, _, _, _, _, _, _, _, _, _, xL0, hb0⟩ bC0 (ClsL.cons (PySem.W.mg_of X G aC1) ⟨_, _, _, _, _, _, _, _, _, _, _, _, _, _, _, xL1, hb1⟩ bC1 (ClsL.cons (PySem.W.mg_of X G aC2) ⟨_, _, _, _, _, _, _, _, _, _, _, _, _, _, _, xL2, hb2⟩ bC2 (ClsL.cons (PySem.W.mg_of X G aC3) ⟨_, _, _, _, _, _, _, _, _, _, _, _, _, _, _, xL3, hb3⟩ bC3 ClsL.nil)))) prC ⟨⟨nm0, qn0, pa0, sc0, dV0, kV0x, doc0, pm0x, an0x, cda, ct0x, oc0x, cc, od0x, sl0x, p0, p1, p2, p3, p4, p5, p6, p7, p8, p9, ar0, ccl0, cl0, cdd0, cld0, vs0, ccs0, csl0, fil0, tf0, cdD0, rfl, lI, cI, lcd, hvs, hfil, lcc, cD, hln, hpa, har, NdefX.nscope_by hsc, hsu⟩, htop, PySem.W.mg_none_of X G msu, opq⟩ ?_ tyI gtO tkO
    exact fun s us _ hl => .of_eq (by have h2 : us.length = 2 := by simpa using hl
                                      rw [List.append_nil]; exact bI us h2)
  refine ⟨PySem.W.fnOf "law" "law" (defArgs s_law) (defBody s_law) (defScope s_law) .none kV56 dc56 pm56 an56 cd56 ct56, ⟨K, PV.mFn [], PV.mCls [Cd, Cx1, Cx2, Cx3]⟩, fun s v => .of_eq rfl, rfl, fun base hbi hbn => ?_⟩
  have F0 := fun_mk (st := s__law_cell) l0 c0 k0
  have B0 : Binds K _ ["script", "index"] [] := F0.binds (ps := ["script", "index"]) fun _ _ _ _ _ _ us hl => match us, hl with | [_, _], _ => rfl
  have hm0 := PySem.W.mg_of X G a0
  have P0 : FnP l.prog w K mg base 3 ⟨K, PV.mFn [], PV.mCls [Cd, Cx1, Cx2, Cx3]⟩ "_law_cell" 2 [] f__law_cell := mk_P F0 sc__law_cell rfl ma__law_cell FnT.nil GvT.nil blt tx (show 2 ≤ 2 by decide) hm0 k0 B0 kb_nil rfl
  have F1 := fun_mk (st := s__law_generator) l1 c1 k1
  have B1 : Binds K _ ["script", "index"] [] := F1.binds (ps := ["script", "index"]) fun _ _ _ _ _ _ us hl => match us, hl with | [_, _], _ => rfl
  have hm1 := PySem.W.mg_of X G a1
  have P1 : FnP l.prog w K mg base 4 ⟨K, PV.mFn [], PV.mCls [Cd, Cx1, Cx2, Cx3]⟩ "_law_generator" 2 [] f__law_generator := mk_P F1 sc__law_generator rfl ma__law_generator (FnT.cons (P0.mono (by decide)) FnT.nil) GvT.nil blt tx (show 2 ≤ 3 by decide) hm1 k1 B1 kb_nil rfl
  have F2 := fun_mk (st := s__law_hash) l2 c2 k2
  have B2 : Binds K _ ["seed", "index"] [] := F2.binds (ps := ["seed", "index"]) fun _ _ _ _ _ _ us hl => match us, hl with | [_, _], _ => rfl
  have hm2 := PySem.W.mg_of X G a2
  have P2 : FnP l.prog w K mg base 3 ⟨K, PV.mFn [], PV.mCls [Cd, Cx1, Cx2, Cx3]⟩ "_law_hash" 2 [] f__law_hash := mk_P F2 sc__law_hash rfl ma__law_hash FnT.nil GvT.nil blt tx (show 2 ≤ 2 by decide) hm2 k2 B2 kb_nil rfl
  have F3 := fun_mk (st := s__law_random) l3 c3 k3
  have B3 : Binds K _ ["generator", "bound"] [] := F3.binds (ps := ["generator", "bound"]) fun _ _ _ _ _ _ us hl => match us, hl with | [_, _], _ => rfl
  have hm3 := PySem.W.mg_of X G a3
  have P3 : FnP l.prog w K mg base 4 ⟨K, PV.mFn [], PV.mCls [Cd, Cx1, Cx2, Cx3]⟩ "_law_random" 2 [] f__law_random := mk_P F3 sc__law_random rfl ma__law_random (FnT.cons (P2.mono (by decide)) FnT.nil) GvT.nil blt tx (show 2 ≤ 3 by decide) hm3 k3 B3 kb_nil rfl
  have F4 := fun_mk (st := s__law_drawn_order) l4 c4 k4
  have B4 : Binds K _ ["generator", "things"] [] := F4.binds (ps := ["generator", "things"]) fun _ _ _ _ _ _ us hl => match us, hl with | [_, _], _ => rfl
  have hm4 := PySem.W.mg_of X G a4
  have P4 : FnP l.prog w K mg base 5 ⟨K, PV.mFn [], PV.mCls [Cd, Cx1, Cx2, Cx3]⟩ "_law_drawn_order" 2 [] f__law_drawn_order := mk_P F4 sc__law_drawn_order rfl ma__law_drawn_order (FnT.cons (P3.mono (by decide)) FnT.nil) GvT.nil blt tx (show 2 ≤ 4 by decide) hm4 k4 B4 kb_nil rfl
  have F5 := fun_mk (st := s__law_odds) l5 c5 k5
  have B5 : Binds K _ ["kind"] [] := F5.binds (ps := ["kind"]) fun _ _ _ _ _ _ us hl => match us, hl with | [_], _ => rfl
  have hm5 := PySem.W.mg_of X G a5
  have P5 : FnP l.prog w K mg base 3 ⟨K, PV.mFn [], PV.mCls [Cd, Cx1, Cx2, Cx3]⟩ "_law_odds" 1 [] f__law_odds := mk_P F5 sc__law_odds rfl ma__law_odds FnT.nil GvT.nil blt tx (show 2 ≤ 2 by decide) hm5 k5 B5 kb_nil rfl
  have F6 := fun_mk (st := s_is_signs) l6 c6 k6
  have B6 : Binds K _ ["value", "signs"] [] := F6.binds (ps := ["value", "signs"]) fun _ _ _ _ _ _ us hl => match us, hl with | [_, _], _ => rfl
  have hm6 := PySem.W.mg_of X G a6
  have P6 : FnP l.prog w K mg base 3 ⟨K, PV.mFn [], PV.mCls [Cd, Cx1, Cx2, Cx3]⟩ "is_signs" 2 [] f_is_signs := mk_P F6 sc_is_signs rfl ma_is_signs FnT.nil GvT.nil blt tx (show 2 ≤ 2 by decide) hm6 k6 B6 kb_nil rfl
  have F7 := fun_mk (st := s_is_story) l7 c7 k7
  have B7 : Binds K _ ["value"] [] := F7.binds (ps := ["value"]) fun _ _ _ _ _ _ us hl => match us, hl with | [_], _ => rfl
  have hm7 := PySem.W.mg_of X G a7
  have P7 : FnP l.prog w K mg base 4 ⟨K, PV.mFn [], PV.mCls [Cd, Cx1, Cx2, Cx3]⟩ "is_story" 1 [] f_is_story := mk_P F7 sc_is_story rfl ma_is_story (FnT.cons (P6.mono (by decide)) FnT.nil) (GvT.cons (gv_str (PySem.W.mg_of X G y0) (by decide)) GvT.nil) blt tx (show 2 ≤ 3 by decide) hm7 k7 B7 kb_nil rfl
  have F8 := fun_mk (st := s_is_scrap) l8 c8 k8
  have B8 : Binds K _ ["value"] [] := F8.binds (ps := ["value"]) fun _ _ _ _ _ _ us hl => match us, hl with | [_], _ => rfl
  have hm8 := PySem.W.mg_of X G a8
  have P8 : FnP l.prog w K mg base 5 ⟨K, PV.mFn [], PV.mCls [Cd, Cx1, Cx2, Cx3]⟩ "is_scrap" 1 [] f_is_scrap := mk_P F8 sc_is_scrap rfl ma_is_scrap (FnT.cons (P7.mono (by decide)) FnT.nil) GvT.nil blt tx (show 2 ≤ 4 by decide) hm8 k8 B8 kb_nil rfl
  have F9 := fun_mk (st := s_check_scrap) l9 c9 k9
  have B9 : Binds K _ ["scrap"] [] := F9.binds (ps := ["scrap"]) fun _ _ _ _ _ _ us hl => match us, hl with | [_], _ => rfl
  have hm9 := PySem.W.mg_of X G a9
  have P9 : FnP l.prog w K mg base 6 ⟨K, PV.mFn [], PV.mCls [Cd, Cx1, Cx2, Cx3]⟩ "check_scrap" 1 [] f_check_scrap := mk_P F9 sc_check_scrap rfl ma_check_scrap (FnT.cons (P8.mono (by decide)) FnT.nil) GvT.nil blt tx (show 2 ≤ 5 by decide) hm9 k9 B9 kb_nil rfl
  have F10 := fun_mk (st := s_is_whole) l10 c10 k10
  have B10 : Binds K _ ["value"] [] := F10.binds (ps := ["value"]) fun _ _ _ _ _ _ us hl => match us, hl with | [_], _ => rfl
  have hm10 := PySem.W.mg_of X G a10
  have P10 : FnP l.prog w K mg base 3 ⟨K, PV.mFn [], PV.mCls [Cd, Cx1, Cx2, Cx3]⟩ "is_whole" 1 [] f_is_whole := mk_P F10 sc_is_whole rfl ma_is_whole FnT.nil GvT.nil blt tx (show 2 ≤ 2 by decide) hm10 k10 B10 kb_nil rfl
  have F11 := fun_mk (st := s_is_count) l11 c11 k11
  have B11 : Binds K _ ["value"] [] := F11.binds (ps := ["value"]) fun _ _ _ _ _ _ us hl => match us, hl with | [_], _ => rfl
  have hm11 := PySem.W.mg_of X G a11
  have P11 : FnP l.prog w K mg base 4 ⟨K, PV.mFn [], PV.mCls [Cd, Cx1, Cx2, Cx3]⟩ "is_count" 1 [] f_is_count := mk_P F11 sc_is_count rfl ma_is_count (FnT.cons (P10.mono (by decide)) FnT.nil) GvT.nil blt tx (show 2 ≤ 3 by decide) hm11 k11 B11 kb_nil rfl
  have F12 := fun_mk (st := s_check_number) l12 c12 k12
  have B12 : Binds K _ ["value"] [] := F12.binds (ps := ["value"]) fun _ _ _ _ _ _ us hl => match us, hl with | [_], _ => rfl
  have hm12 := PySem.W.mg_of X G a12
  have P12 : FnP l.prog w K mg base 5 ⟨K, PV.mFn [], PV.mCls [Cd, Cx1, Cx2, Cx3]⟩ "check_number" 1 [] f_check_number := mk_P F12 sc_check_number rfl ma_check_number (FnT.cons (P11.mono (by decide)) FnT.nil) GvT.nil blt tx (show 2 ≤ 4 by decide) hm12 k12 B12 kb_nil rfl
  have F13 := fun_mk (st := s_turned_by) l13 c13 k13
  have B13 : Binds K _ ["scrap", "many"] [] := F13.binds (ps := ["scrap", "many"]) fun _ _ _ _ _ _ us hl => match us, hl with | [_, _], _ => rfl
  have hm13 := PySem.W.mg_of X G a13
  have P13 : FnP l.prog w K mg base 3 ⟨K, PV.mFn [], PV.mCls [Cd, Cx1, Cx2, Cx3]⟩ "turned_by" 2 [] f_turned_by := mk_P F13 sc_turned_by rfl ma_turned_by FnT.nil GvT.nil blt tx (show 2 ≤ 2 by decide) hm13 k13 B13 kb_nil rfl
  have F14 := fun_mk (st := s_ring_turned) l14 c14 k14
  have B14 : Binds K _ ["scrap", "many"] [] := F14.binds (ps := ["scrap", "many"]) fun _ _ _ _ _ _ us hl => match us, hl with | [_, _], _ => rfl
  have hm14 := PySem.W.mg_of X G a14
  have P14 : FnP l.prog w K mg base 7 ⟨K, PV.mFn [], PV.mCls [Cd, Cx1, Cx2, Cx3]⟩ "ring_turned" 2 [] f_ring_turned := mk_P F14 sc_ring_turned rfl ma_ring_turned (FnT.cons (P9.mono (by decide)) (FnT.cons (P12.mono (by decide)) (FnT.cons (P13.mono (by decide)) FnT.nil))) GvT.nil blt tx (show 2 ≤ 6 by decide) hm14 k14 B14 kb_nil rfl
  have F15 := fun_mk (st := s_root_size) l15 c15 k15
  have B15 : Binds K _ ["scrap"] [] := F15.binds (ps := ["scrap"]) fun _ _ _ _ _ _ us hl => match us, hl with | [_], _ => rfl
  have hm15 := PySem.W.mg_of X G a15
  have P15 : FnP l.prog w K mg base 4 ⟨K, PV.mFn [], PV.mCls [Cd, Cx1, Cx2, Cx3]⟩ "root_size" 1 [] f_root_size := mk_P F15 sc_root_size rfl ma_root_size (FnT.cons (P13.mono (by decide)) FnT.nil) GvT.nil blt tx (show 2 ≤ 3 by decide) hm15 k15 B15 kb_nil rfl
  have F16 := fun_mk (st := s_all_turnings) l16 c16 k16
  have B16 : Binds K _ ["scrap"] [] := F16.binds (ps := ["scrap"]) fun _ _ _ _ _ _ us hl => match us, hl with | [_], _ => rfl
  have hm16 := PySem.W.mg_of X G a16
  have P16 : FnP l.prog w K mg base 5 ⟨K, PV.mFn [], PV.mCls [Cd, Cx1, Cx2, Cx3]⟩ "all_turnings" 1 [] f_all_turnings := mk_P F16 sc_all_turnings rfl ma_all_turnings (FnT.cons (P15.mono (by decide)) (FnT.cons (P13.mono (by decide)) FnT.nil)) GvT.nil blt tx (show 2 ≤ 4 by decide) hm16 k16 B16 kb_nil rfl
  have F17 := fun_mk (st := s_ring_turnings) l17 c17 k17
  have B17 : Binds K _ ["scrap"] [] := F17.binds (ps := ["scrap"]) fun _ _ _ _ _ _ us hl => match us, hl with | [_], _ => rfl
  have hm17 := PySem.W.mg_of X G a17
  have P17 : FnP l.prog w K mg base 7 ⟨K, PV.mFn [], PV.mCls [Cd, Cx1, Cx2, Cx3]⟩ "ring_turnings" 1 [] f_ring_turnings := mk_P F17 sc_ring_turnings rfl ma_ring_turnings (FnT.cons (P9.mono (by decide)) (FnT.cons (P16.mono (by decide)) FnT.nil)) GvT.nil blt tx (show 2 ≤ 6 by decide) hm17 k17 B17 kb_nil rfl
  have F18 := fun_mk (st := s_least_turning) l18 c18 k18
  have B18 : Binds K _ ["scrap"] [] := F18.binds (ps := ["scrap"]) fun _ _ _ _ _ _ us hl => match us, hl with | [_], _ => rfl
  have hm18 := PySem.W.mg_of X G a18
  have P18 : FnP l.prog w K mg base 7 ⟨K, PV.mFn [], PV.mCls [Cd, Cx1, Cx2, Cx3]⟩ "least_turning" 1 [] f_least_turning := mk_P F18 sc_least_turning rfl ma_least_turning (FnT.cons (P9.mono (by decide)) (FnT.cons (P16.mono (by decide)) FnT.nil)) GvT.nil blt tx (show 2 ≤ 6 by decide) hm18 k18 B18 kb_nil rfl
  have F19 := fun_mk (st := s_turns_to) l19 c19 k19
  have B19 : Binds K _ ["one", "other"] [] := F19.binds (ps := ["one", "other"]) fun _ _ _ _ _ _ us hl => match us, hl with | [_, _], _ => rfl
  have hm19 := PySem.W.mg_of X G a19
  have P19 : FnP l.prog w K mg base 7 ⟨K, PV.mFn [], PV.mCls [Cd, Cx1, Cx2, Cx3]⟩ "turns_to" 2 [] f_turns_to := mk_P F19 sc_turns_to rfl ma_turns_to (FnT.cons (P9.mono (by decide)) (FnT.cons (P13.mono (by decide)) FnT.nil)) GvT.nil blt tx (show 2 ≤ 6 by decide) hm19 k19 B19 kb_nil rfl
  have F20 := fun_mk (st := s_root_of) l20 c20 k20
  have B20 : Binds K _ ["scrap"] [] := F20.binds (ps := ["scrap"]) fun _ _ _ _ _ _ us hl => match us, hl with | [_], _ => rfl
  have hm20 := PySem.W.mg_of X G a20
  have P20 : FnP l.prog w K mg base 7 ⟨K, PV.mFn [], PV.mCls [Cd, Cx1, Cx2, Cx3]⟩ "root_of" 1 [] f_root_of := mk_P F20 sc_root_of rfl ma_root_of (FnT.cons (P9.mono (by decide)) (FnT.cons (P15.mono (by decide)) FnT.nil)) GvT.nil blt tx (show 2 ≤ 6 by decide) hm20 k20 B20 kb_nil rfl
  have F21 := fun_mk (st := s_check_ring_size) l21 c21 k21
  have B21 : Binds K _ ["size"] [] := F21.binds (ps := ["size"]) fun _ _ _ _ _ _ us hl => match us, hl with | [_], _ => rfl
  have hm21 := PySem.W.mg_of X G a21
  have P21 : FnP l.prog w K mg base 5 ⟨K, PV.mFn [], PV.mCls [Cd, Cx1, Cx2, Cx3]⟩ "check_ring_size" 1 [] f_check_ring_size := mk_P F21 sc_check_ring_size rfl ma_check_ring_size (FnT.cons (P11.mono (by decide)) FnT.nil) GvT.nil blt tx (show 2 ≤ 4 by decide) hm21 k21 B21 kb_nil rfl
  have F22 := fun_mk (st := s_windows_round) l22 c22 k22
  have B22 : Binds K _ ["scrap", "size"] [] := F22.binds (ps := ["scrap", "size"]) fun _ _ _ _ _ _ us hl => match us, hl with | [_, _], _ => rfl
  have hm22 := PySem.W.mg_of X G a22
  have P22 : FnP l.prog w K mg base 3 ⟨K, PV.mFn [], PV.mCls [Cd, Cx1, Cx2, Cx3]⟩ "windows_round" 2 [] f_windows_round := mk_P F22 sc_windows_round rfl ma_windows_round FnT.nil GvT.nil blt tx (show 2 ≤ 2 by decide) hm22 k22 B22 kb_nil rfl
  have F23 := fun_mk (st := s_ring_windows) l23 c23 k23
  have B23 : Binds K _ ["scrap", "size"] [] := F23.binds (ps := ["scrap", "size"]) fun _ _ _ _ _ _ us hl => match us, hl with | [_, _], _ => rfl
  have hm23 := PySem.W.mg_of X G a23
  have P23 : FnP l.prog w K mg base 7 ⟨K, PV.mFn [], PV.mCls [Cd, Cx1, Cx2, Cx3]⟩ "ring_windows" 2 [] f_ring_windows := mk_P F23 sc_ring_windows rfl ma_ring_windows (FnT.cons (P9.mono (by decide)) (FnT.cons (P21.mono (by decide)) (FnT.cons (P22.mono (by decide)) FnT.nil))) GvT.nil blt tx (show 2 ≤ 6 by decide) hm23 k23 B23 kb_nil rfl
  have F24 := fun_mk (st := s_ring_counts) l24 c24 k24
  have B24 : Binds K _ ["scrap", "size"] [] := F24.binds (ps := ["scrap", "size"]) fun _ _ _ _ _ _ us hl => match us, hl with | [_, _], _ => rfl
  have hm24 := PySem.W.mg_of X G a24
  have P24 : FnP l.prog w K mg base 7 ⟨K, PV.mFn [], PV.mCls [Cd, Cx1, Cx2, Cx3]⟩ "ring_counts" 2 [] f_ring_counts := mk_P F24 sc_ring_counts rfl ma_ring_counts (FnT.cons (P9.mono (by decide)) (FnT.cons (P21.mono (by decide)) (FnT.cons (P22.mono (by decide)) FnT.nil))) GvT.nil blt tx (show 2 ≤ 6 by decide) hm24 k24 B24 kb_nil rfl
  have F25 := fun_mk (st := s_is_least_end) l25 c25 k25
  have B25 : Binds K _ ["scrap"] [] := F25.binds (ps := ["scrap"]) fun _ _ _ _ _ _ us hl => match us, hl with | [_], _ => rfl
  have hm25 := PySem.W.mg_of X G a25
  have P25 : FnP l.prog w K mg base 3 ⟨K, PV.mFn [], PV.mCls [Cd, Cx1, Cx2, Cx3]⟩ "is_least_end" 1 [] f_is_least_end := mk_P F25 sc_is_least_end rfl ma_is_least_end FnT.nil GvT.nil blt tx (show 2 ≤ 2 by decide) hm25 k25 B25 kb_nil rfl
  have F26 := fun_mk (st := s_is_small) l26 c26 k26
  have B26 : Binds K _ ["scrap"] [] := F26.binds (ps := ["scrap"]) fun _ _ _ _ _ _ us hl => match us, hl with | [_], _ => rfl
  have hm26 := PySem.W.mg_of X G a26
  have P26 : FnP l.prog w K mg base 7 ⟨K, PV.mFn [], PV.mCls [Cd, Cx1, Cx2, Cx3]⟩ "is_small" 1 [] f_is_small := mk_P F26 sc_is_small rfl ma_is_small (FnT.cons (P9.mono (by decide)) (FnT.cons (P25.mono (by decide)) FnT.nil)) GvT.nil blt tx (show 2 ≤ 6 by decide) hm26 k26 B26 kb_nil rfl
  have F27 := fun_mk (st := s_small_run) l27 c27 k27
  have B27 : Binds K _ ["rest"] [] := F27.binds (ps := ["rest"]) fun _ _ _ _ _ _ us hl => match us, hl with | [_], _ => rfl
  have hm27 := PySem.W.mg_of X G a27
  have P27 : FnP l.prog w K mg base 3 ⟨K, PV.mFn [], PV.mCls [Cd, Cx1, Cx2, Cx3]⟩ "small_run" 1 [] f_small_run := mk_P F27 sc_small_run rfl ma_small_run FnT.nil GvT.nil blt tx (show 2 ≤ 2 by decide) hm27 k27 B27 kb_nil rfl
  have F28 := fun_mk (st := s_small_parts) l28 c28 k28
  have B28 : Binds K _ ["story"] [] := F28.binds (ps := ["story"]) fun _ _ _ _ _ _ us hl => match us, hl with | [_], _ => rfl
  have hm28 := PySem.W.mg_of X G a28
  have P28 : FnP l.prog w K mg base 5 ⟨K, PV.mFn [], PV.mCls [Cd, Cx1, Cx2, Cx3]⟩ "small_parts" 1 [] f_small_parts := mk_P F28 sc_small_parts rfl ma_small_parts (FnT.cons (P7.mono (by decide)) (FnT.cons (P27.mono (by decide)) FnT.nil)) GvT.nil blt tx (show 2 ≤ 4 by decide) hm28 k28 B28 kb_nil rfl
  have F29 := fun_mk (st := s_divisors_of) l29 c29 k29
  have B29 : Binds K _ ["size"] [] := F29.binds (ps := ["size"]) fun _ _ _ _ _ _ us hl => match us, hl with | [_], _ => rfl
  have hm29 := PySem.W.mg_of X G a29
  have P29 : FnP l.prog w K mg base 3 ⟨K, PV.mFn [], PV.mCls [Cd, Cx1, Cx2, Cx3]⟩ "divisors_of" 1 [] f_divisors_of := mk_P F29 sc_divisors_of rfl ma_divisors_of FnT.nil GvT.nil blt tx (show 2 ≤ 2 by decide) hm29 k29 B29 kb_nil rfl
  have F30 := fun_mk (st := s_power_of) l30 c30 k30
  have B30 : Binds K _ ["many", "times"] [] := F30.binds (ps := ["many", "times"]) fun _ _ _ _ _ _ us hl => match us, hl with | [_, _], _ => rfl
  have hm30 := PySem.W.mg_of X G a30
  have P30 : FnP l.prog w K mg base 3 ⟨K, PV.mFn [], PV.mCls [Cd, Cx1, Cx2, Cx3]⟩ "power_of" 2 [] f_power_of := mk_P F30 sc_power_of rfl ma_power_of FnT.nil GvT.nil blt tx (show 2 ≤ 2 by decide) hm30 k30 B30 kb_nil rfl
  have F31 := fun_mk (st := s_small_numbers) l31 c31 k31
  have B31 : Binds K _ ["many", "size"] [] := F31.binds (ps := ["many", "size"]) fun _ _ _ _ _ _ us hl => match us, hl with | [_, _], _ => rfl
  have hm31 := PySem.W.mg_of X G a31
  have P31 : FnP l.prog w K mg base 4 ⟨K, PV.mFn [], PV.mCls [Cd, Cx1, Cx2, Cx3]⟩ "small_numbers" 2 [] f_small_numbers := mk_P F31 sc_small_numbers rfl ma_small_numbers (FnT.cons (P29.mono (by decide)) (FnT.cons (P30.mono (by decide)) FnT.nil)) GvT.nil blt tx (show 2 ≤ 3 by decide) hm31 k31 B31 kb_nil rfl
  have F32 := fun_mk (st := s_rings_of) l32 c32 k32
  have B32 : Binds K _ ["many", "size"] [] := F32.binds (ps := ["many", "size"]) fun _ _ _ _ _ _ us hl => match us, hl with | [_, _], _ => rfl
  have hm32 := PySem.W.mg_of X G a32
  have P32 : FnP l.prog w K mg base 5 ⟨K, PV.mFn [], PV.mCls [Cd, Cx1, Cx2, Cx3]⟩ "rings_of" 2 [] f_rings_of := mk_P F32 sc_rings_of rfl ma_rings_of (FnT.cons (P31.mono (by decide)) FnT.nil) GvT.nil blt tx (show 2 ≤ 4 by decide) hm32 k32 B32 kb_nil rfl
  have F33 := fun_mk (st := s_how_many_rings) l33 c33 k33
  have B33 : Binds K _ ["many", "size"] [] := F33.binds (ps := ["many", "size"]) fun _ _ _ _ _ _ us hl => match us, hl with | [_, _], _ => rfl
  have hm33 := PySem.W.mg_of X G a33
  have P33 : FnP l.prog w K mg base 6 ⟨K, PV.mFn [], PV.mCls [Cd, Cx1, Cx2, Cx3]⟩ "how_many_rings" 2 [] f_how_many_rings := mk_P F33 sc_how_many_rings rfl ma_how_many_rings (FnT.cons (P21.mono (by decide)) (FnT.cons (P32.mono (by decide)) FnT.nil)) GvT.nil blt tx (show 2 ≤ 5 by decide) hm33 k33 B33 kb_nil rfl
  have F34 := fun_mk (st := s_how_many_both) l34 c34 k34
  have B34 : Binds K _ ["many", "size"] [] := F34.binds (ps := ["many", "size"]) fun _ _ _ _ _ _ us hl => match us, hl with | [_, _], _ => rfl
  have hm34 := PySem.W.mg_of X G a34
  have P34 : FnP l.prog w K mg base 6 ⟨K, PV.mFn [], PV.mCls [Cd, Cx1, Cx2, Cx3]⟩ "how_many_both" 2 [] f_how_many_both := mk_P F34 sc_how_many_both rfl ma_how_many_both (FnT.cons (P21.mono (by decide)) (FnT.cons (P30.mono (by decide)) (FnT.cons (P32.mono (by decide)) FnT.nil))) GvT.nil blt tx (show 2 ≤ 5 by decide) hm34 k34 B34 kb_nil rfl
  have F35 := fun_mk (st := s_how_many_small) l35 c35 k35
  have B35 : Binds K _ ["many", "size"] [] := F35.binds (ps := ["many", "size"]) fun _ _ _ _ _ _ us hl => match us, hl with | [_, _], _ => rfl
  have hm35 := PySem.W.mg_of X G a35
  have P35 : FnP l.prog w K mg base 6 ⟨K, PV.mFn [], PV.mCls [Cd, Cx1, Cx2, Cx3]⟩ "how_many_small" 2 [] f_how_many_small := mk_P F35 sc_how_many_small rfl ma_how_many_small (FnT.cons (P21.mono (by decide)) (FnT.cons (P31.mono (by decide)) FnT.nil)) GvT.nil blt tx (show 2 ≤ 5 by decide) hm35 k35 B35 kb_nil rfl
  have F36 := fun_mk (st := s_is_sign) l36 c36 k36
  have B36 : Binds K _ ["value"] [] := F36.binds (ps := ["value"]) fun _ _ _ _ _ _ us hl => match us, hl with | [_], _ => rfl
  have hm36 := PySem.W.mg_of X G a36
  have P36 : FnP l.prog w K mg base 5 ⟨K, PV.mFn [], PV.mCls [Cd, Cx1, Cx2, Cx3]⟩ "is_sign" 1 [] f_is_sign := mk_P F36 sc_is_sign rfl ma_is_sign (FnT.cons (P7.mono (by decide)) FnT.nil) GvT.nil blt tx (show 2 ≤ 4 by decide) hm36 k36 B36 kb_nil rfl
  have F37 := fun_mk (st := s_are_mates) l37 c37 k37
  have B37 : Binds K _ ["value"] [] := F37.binds (ps := ["value"]) fun _ _ _ _ _ _ us hl => match us, hl with | [_], _ => rfl
  have hm37 := PySem.W.mg_of X G a37
  have P37 : FnP l.prog w K mg base 6 ⟨K, PV.mFn [], PV.mCls [Cd, Cx1, Cx2, Cx3]⟩ "are_mates" 1 [] f_are_mates := mk_P F37 sc_are_mates rfl ma_are_mates (FnT.cons (P36.mono (by decide)) FnT.nil) GvT.nil blt tx (show 2 ≤ 5 by decide) hm37 k37 B37 kb_nil rfl
  have F38 := fun_mk (st := s_check_mates) l38 c38 k38
  have B38 : Binds K _ ["mates"] [] := F38.binds (ps := ["mates"]) fun _ _ _ _ _ _ us hl => match us, hl with | [_], _ => rfl
  have hm38 := PySem.W.mg_of X G a38
  have P38 : FnP l.prog w K mg base 7 ⟨K, PV.mFn [], PV.mCls [Cd, Cx1, Cx2, Cx3]⟩ "check_mates" 1 [] f_check_mates := mk_P F38 sc_check_mates rfl ma_check_mates (FnT.cons (P37.mono (by decide)) FnT.nil) GvT.nil blt tx (show 2 ≤ 6 by decide) hm38 k38 B38 kb_nil rfl
  have F39 := fun_mk (st := s_check_mated) l39 c39 k39
  have B39 : Binds K _ ["mates", "story"] [] := F39.binds (ps := ["mates", "story"]) fun _ _ _ _ _ _ us hl => match us, hl with | [_, _], _ => rfl
  have hm39 := PySem.W.mg_of X G a39
  have P39 : FnP l.prog w K mg base 8 ⟨K, PV.mFn [], PV.mCls [Cd, Cx1, Cx2, Cx3]⟩ "check_mated" 2 [] f_check_mated := mk_P F39 sc_check_mated rfl ma_check_mated (FnT.cons (P38.mono (by decide)) (FnT.cons (P7.mono (by decide)) FnT.nil)) GvT.nil blt tx (show 2 ≤ 7 by decide) hm39 k39 B39 kb_nil rfl
  have F40 := fun_mk (st := s_mirror_in) l40 c40 k40
  have B40 : Binds K _ ["mates", "story"] [] := F40.binds (ps := ["mates", "story"]) fun _ _ _ _ _ _ us hl => match us, hl with | [_, _], _ => rfl
  have hm40 := PySem.W.mg_of X G a40
  have P40 : FnP l.prog w K mg base 3 ⟨K, PV.mFn [], PV.mCls [Cd, Cx1, Cx2, Cx3]⟩ "mirror_in" 2 [] f_mirror_in := mk_P F40 sc_mirror_in rfl ma_mirror_in FnT.nil GvT.nil blt tx (show 2 ≤ 2 by decide) hm40 k40 B40 kb_nil rfl
  have F41 := fun_mk (st := s_mirror_of) l41 c41 k41
  have B41 : Binds K _ ["mates", "story"] [] := F41.binds (ps := ["mates", "story"]) fun _ _ _ _ _ _ us hl => match us, hl with | [_, _], _ => rfl
  have hm41 := PySem.W.mg_of X G a41
  have P41 : FnP l.prog w K mg base 9 ⟨K, PV.mFn [], PV.mCls [Cd, Cx1, Cx2, Cx3]⟩ "mirror_of" 2 [] f_mirror_of := mk_P F41 sc_mirror_of rfl ma_mirror_of (FnT.cons (P39.mono (by decide)) (FnT.cons (P40.mono (by decide)) FnT.nil)) GvT.nil blt tx (show 2 ≤ 8 by decide) hm41 k41 B41 kb_nil rfl
  have F42 := fun_mk (st := s_is_even) l42 c42 k42
  have B42 : Binds K _ ["mates", "story"] [] := F42.binds (ps := ["mates", "story"]) fun _ _ _ _ _ _ us hl => match us, hl with | [_, _], _ => rfl
  have hm42 := PySem.W.mg_of X G a42
  have P42 : FnP l.prog w K mg base 9 ⟨K, PV.mFn [], PV.mCls [Cd, Cx1, Cx2, Cx3]⟩ "is_even" 2 [] f_is_even := mk_P F42 sc_is_even rfl ma_is_even (FnT.cons (P39.mono (by decide)) (FnT.cons (P40.mono (by decide)) FnT.nil)) GvT.nil blt tx (show 2 ≤ 8 by decide) hm42 k42 B42 kb_nil rfl
  have F43 := fun_mk (st := s_check_ring) l43 c43 k43
  have B43 : Binds K _ ["mates", "scrap"] [] := F43.binds (ps := ["mates", "scrap"]) fun _ _ _ _ _ _ us hl => match us, hl with | [_, _], _ => rfl
  have hm43 := PySem.W.mg_of X G a43
  have P43 : FnP l.prog w K mg base 9 ⟨K, PV.mFn [], PV.mCls [Cd, Cx1, Cx2, Cx3]⟩ "check_ring" 2 [] f_check_ring := mk_P F43 sc_check_ring rfl ma_check_ring (FnT.cons (P39.mono (by decide)) (FnT.cons (P9.mono (by decide)) FnT.nil)) GvT.nil blt tx (show 2 ≤ 8 by decide) hm43 k43 B43 kb_nil rfl
  have F44 := fun_mk (st := s_is_even_ring) l44 c44 k44
  have B44 : Binds K _ ["mates", "scrap"] [] := F44.binds (ps := ["mates", "scrap"]) fun _ _ _ _ _ _ us hl => match us, hl with | [_, _], _ => rfl
  have hm44 := PySem.W.mg_of X G a44
  have P44 : FnP l.prog w K mg base 10 ⟨K, PV.mFn [], PV.mCls [Cd, Cx1, Cx2, Cx3]⟩ "is_even_ring" 2 [] f_is_even_ring := mk_P F44 sc_is_even_ring rfl ma_is_even_ring (FnT.cons (P43.mono (by decide)) (FnT.cons (P40.mono (by decide)) (FnT.cons (P16.mono (by decide)) FnT.nil))) GvT.nil blt tx (show 2 ≤ 9 by decide) hm44 k44 B44 kb_nil rfl
  have F45 := fun_mk (st := s_widest_at) l45 c45 k45
  have B45 : Binds K _ ["mates", "story", "start", "end"] [] := F45.binds (ps := ["mates", "story", "start", "end"]) fun _ _ _ _ _ _ us hl => match us, hl with | [_, _, _, _], _ => rfl
  have hm45 := PySem.W.mg_of X G a45
  have P45 : FnP l.prog w K mg base 3 ⟨K, PV.mFn [], PV.mCls [Cd, Cx1, Cx2, Cx3]⟩ "widest_at" 4 [] f_widest_at := mk_P F45 sc_widest_at rfl ma_widest_at FnT.nil GvT.nil blt tx (show 2 ≤ 2 by decide) hm45 k45 B45 kb_nil rfl
  have F46 := fun_mk (st := s_even_stretches) l46 c46 k46
  have B46 : Binds K _ ["mates", "story"] [] := F46.binds (ps := ["mates", "story"]) fun _ _ _ _ _ _ us hl => match us, hl with | [_, _], _ => rfl
  have hm46 := PySem.W.mg_of X G a46
  have P46 : FnP l.prog w K mg base 9 ⟨K, PV.mFn [], PV.mCls [Cd, Cx1, Cx2, Cx3]⟩ "even_stretches" 2 [] f_even_stretches := mk_P F46 sc_even_stretches rfl ma_even_stretches (FnT.cons (P39.mono (by decide)) (FnT.cons (P45.mono (by decide)) FnT.nil)) GvT.nil blt tx (show 2 ≤ 8 by decide) hm46 k46 B46 kb_nil rfl
  have F47 := fun_mk (st := s_least_reading) l47 c47 k47
  have B47 : Binds K _ ["mates", "scrap"] [] := F47.binds (ps := ["mates", "scrap"]) fun _ _ _ _ _ _ us hl => match us, hl with | [_, _], _ => rfl
  have hm47 := PySem.W.mg_of X G a47
  have P47 : FnP l.prog w K mg base 10 ⟨K, PV.mFn [], PV.mCls [Cd, Cx1, Cx2, Cx3]⟩ "least_reading" 2 [] f_least_reading := mk_P F47 sc_least_reading rfl ma_least_reading (FnT.cons (P43.mono (by decide)) (FnT.cons (P16.mono (by decide)) (FnT.cons (P40.mono (by decide)) FnT.nil))) GvT.nil blt tx (show 2 ≤ 9 by decide) hm47 k47 B47 kb_nil rfl
  have F48 := fun_mk (st := s_check_full_signs) l48 c48 k48
  have B48 : Binds K _ ["signs"] [] := F48.binds (ps := ["signs"]) fun _ _ _ _ _ _ us hl => match us, hl with | [_], _ => rfl
  have hm48 := PySem.W.mg_of X G a48
  have P48 : FnP l.prog w K mg base 6 ⟨K, PV.mFn [], PV.mCls [Cd, Cx1, Cx2, Cx3]⟩ "check_full_signs" 1 [] f_check_full_signs := mk_P F48 sc_check_full_signs rfl ma_check_full_signs (FnT.cons (P8.mono (by decide)) FnT.nil) GvT.nil blt tx (show 2 ≤ 5 by decide) hm48 k48 B48 kb_nil rfl
  have F49 := fun_mk (st := s_next_small) l49 c49 k49
  have B49 : Binds K _ ["signs", "scrap", "size"] [] := F49.binds (ps := ["signs", "scrap", "size"]) fun _ _ _ _ _ _ us hl => match us, hl with | [_, _, _], _ => rfl
  have hm49 := PySem.W.mg_of X G a49
  have P49 : FnP l.prog w K mg base 3 ⟨K, PV.mFn [], PV.mCls [Cd, Cx1, Cx2, Cx3]⟩ "next_small" 3 [] f_next_small := mk_P F49 sc_next_small rfl ma_next_small FnT.nil GvT.nil blt tx (show 2 ≤ 2 by decide) hm49 k49 B49 kb_nil rfl
  have F50 := fun_mk (st := s_full_ring) l50 c50 k50
  have B50 : Binds K _ ["signs", "size"] [] := F50.binds (ps := ["signs", "size"]) fun _ _ _ _ _ _ us hl => match us, hl with | [_, _], _ => rfl
  have hm50 := PySem.W.mg_of X G a50
  have P50 : FnP l.prog w K mg base 7 ⟨K, PV.mFn [], PV.mCls [Cd, Cx1, Cx2, Cx3]⟩ "full_ring" 2 [] f_full_ring := mk_P F50 sc_full_ring rfl ma_full_ring (FnT.cons (P48.mono (by decide)) (FnT.cons (P21.mono (by decide)) (FnT.cons (P49.mono (by decide)) FnT.nil))) GvT.nil blt tx (show 2 ≤ 6 by decide) hm50 k50 B50 kb_nil rfl
  have F51 := fun_mk (st := s_is_full_ring) l51 c51 k51
  have B51 : Binds K _ ["signs", "size", "value"] [] := F51.binds (ps := ["signs", "size", "value"]) fun _ _ _ _ _ _ us hl => match us, hl with | [_, _, _], _ => rfl
  have hm51 := PySem.W.mg_of X G a51
  have P51 : FnP l.prog w K mg base 7 ⟨K, PV.mFn [], PV.mCls [Cd, Cx1, Cx2, Cx3]⟩ "is_full_ring" 3 [] f_is_full_ring := mk_P F51 sc_is_full_ring rfl ma_is_full_ring (FnT.cons (P48.mono (by decide)) (FnT.cons (P21.mono (by decide)) (FnT.cons (P8.mono (by decide)) (FnT.cons (P30.mono (by decide)) FnT.nil)))) GvT.nil blt tx (show 2 ≤ 6 by decide) hm51 k51 B51 kb_nil rfl
  have F52 := fun_mk (st := s_how_many_full) l52 c52 k52
  have B52 : Binds K _ ["signs", "size"] [] := F52.binds (ps := ["signs", "size"]) fun _ _ _ _ _ _ us hl => match us, hl with | [_, _], _ => rfl
  have hm52 := PySem.W.mg_of X G a52
  have P52 : FnP l.prog w K mg base 7 ⟨K, PV.mFn [], PV.mCls [Cd, Cx1, Cx2, Cx3]⟩ "how_many_full" 2 [] f_how_many_full := mk_P F52 sc_how_many_full rfl ma_how_many_full (FnT.cons (P48.mono (by decide)) (FnT.cons (P21.mono (by decide)) (FnT.cons (P30.mono (by decide)) FnT.nil))) GvT.nil blt tx (show 2 ≤ 6 by decide) hm52 k52 B52 kb_nil rfl
  have F53 := fun_mk (st := s__law_further) l53 c53 k53
  have B53 : Binds K _ ["door", "mates", "other"] [] := F53.binds (ps := ["door", "mates", "other"]) fun _ _ _ _ _ _ us hl => match us, hl with | [_, _, _], _ => rfl
  have hm53 := PySem.W.mg_of X G a53
  have P53 : FnP l.prog w K mg base 11 ⟨K, PV.mFn [], PV.mCls [Cd, Cx1, Cx2, Cx3]⟩ "_law_further" 3 [] f__law_further := mk_P F53 sc__law_further rfl ma__law_further (FnT.cons (P35.mono (by decide)) (FnT.cons (P41.mono (by decide)) (FnT.cons (P42.mono (by decide)) (FnT.cons (P44.mono (by decide)) (FnT.cons (P46.mono (by decide)) (FnT.cons (P47.mono (by decide)) (FnT.cons (P50.mono (by decide)) (FnT.cons (P51.mono (by decide)) (FnT.cons (P52.mono (by decide)) FnT.nil))))))))) GvT.nil blt tx (show 2 ≤ 10 by decide) hm53 k53 B53 kb_nil rfl
  have F54 := fun_mk (st := s__law_call) l54 c54 k54
  have B54 : Binds K _ ["door", "mates", "other"] [] := F54.binds (ps := ["door", "mates", "other"]) fun _ _ _ _ _ _ us hl => match us, hl with | [_, _, _], _ => rfl
  have hm54 := PySem.W.mg_of X G a54
  have P54 : FnP l.prog w K mg base 12 ⟨K, PV.mFn [], PV.mCls [Cd, Cx1, Cx2, Cx3]⟩ "_law_call" 3 [] f__law_call := mk_P F54 sc__law_call rfl ma__law_call (FnT.cons (P14.mono (by decide)) (FnT.cons (P17.mono (by decide)) (FnT.cons (P18.mono (by decide)) (FnT.cons (P19.mono (by decide)) (FnT.cons (P20.mono (by decide)) (FnT.cons (P23.mono (by decide)) (FnT.cons (P24.mono (by decide)) (FnT.cons (P26.mono (by decide)) (FnT.cons (P28.mono (by decide)) (FnT.cons (P33.mono (by decide)) (FnT.cons (P34.mono (by decide)) (FnT.cons (P53.mono (by decide)) FnT.nil)))))))))))) GvT.nil blt tx (show 2 ≤ 11 by decide) hm54 k54 B54 kb_nil rfl
  have F55 := fun_mk (st := s__law_caught) l55 c55 k55
  have B55 : Binds K _ ["door", "mates", "other"] [] := F55.binds (ps := ["door", "mates", "other"]) fun _ _ _ _ _ _ us hl => match us, hl with | [_, _, _], _ => rfl
  have hm55 := PySem.W.mg_of X G a55
  have P55 : FnP l.prog w K mg base 13 ⟨K, PV.mFn [], PV.mCls [Cd, Cx1, Cx2, Cx3]⟩ "_law_caught" 3 [] f__law_caught := mk_P F55 sc__law_caught rfl ma__law_caught (FnT.cons (P54.mono (by decide)) FnT.nil) GvT.nil blt tx (show 2 ≤ 12 by decide) hm55 k55 B55 kb_nil rfl
  have F56 := fun_mk (st := s_law) l56 c56 k56
  have B56 : Binds K _ ["script"] [] := F56.binds (ps := ["script"]) fun _ _ _ _ _ _ us hl => match us, hl with | [_], _ => rfl
  have hm56 := PySem.W.mg_of X G a56
  exact mk_G F56 sc_law rfl ma_law (FnT.cons (P1.mono (by decide)) (FnT.cons (P4.mono (by decide)) (FnT.cons (P5.mono (by decide)) (FnT.cons (P55.mono (by decide)) (FnT.cons (P23.mono (by decide)) (FnT.cons (P33.mono (by decide)) (FnT.cons (P34.mono (by decide)) (FnT.cons (P35.mono (by decide)) FnT.nil)))))))) GvT.nil blt tx (show 2 ≤ 13 by decide) rfl
end K92
open PySem PySem.W PyProof.Rows
set_option maxHeartbeats 0 in
theorem PySem.Challenge.cw_scrapstory_k92_rings_and_mirrors_refused_holds : PySem.Challenge.rw_scrapstory_k92_rings_and_mirrors_refused.Holds := by
  w_on; o_law; k_head; (case hw => w_witness2)
  k_fill
  refine PV.walk_G (l := PySem.Challenge.rw_scrapstory_k92_rings_and_mirrors_refused) (n := 63) (k := 14) (x := "script") (Φ := K92.f_law) rfl (by decide) rfl ⟨rfl, by decide, by decide⟩ (fun w h Y => PySem.W.kIn_of Y) ?F K92.main
  case F =>
    intro w mg fa h KX G hmg
    refine' K92.all_mk KX G hmg ?a0 ?l0 ?c0 ?k0 ?a1 ?l1 ?c1 ?k1 ?a2 ?l2 ?c2 ?k2 ?a3 ?l3 ?c3 ?k3 ?a4 ?l4 ?c4 ?k4 ?a5 ?l5 ?c5 ?k5 ?a6 ?l6 ?c6 ?k6 ?a7 ?l7 ?c7 ?k7 ?a8 ?l8 ?c8 ?k8 ?a9 ?l9 ?c9 ?k9 ?a10 ?l10 ?c10 ?k10 ?a11 ?l11 ?c11 ?k11 ?a12 ?l12 ?c12 ?k12 ?a13 ?l13 ?c13 ?k13 ?a14 ?l14 ?c14 ?k14 ?a15 ?l15 ?c15 ?k15 ?a16 ?l16 ?c16 ?k16 ?a17 ?l17 ?c17 ?k17 ?a18 ?l18 ?c18 ?k18 ?a19 ?l19 ?c19 ?k19 ?a20 ?l20 ?c20 ?k20 ?a21 ?l21 ?c21 ?k21 ?a22 ?l22 ?c22 ?k22 ?a23 ?l23 ?c23 ?k23 ?a24 ?l24 ?c24 ?k24 ?a25 ?l25 ?c25 ?k25 ?a26 ?l26 ?c26 ?k26 ?a27 ?l27 ?c27 ?k27 ?a28 ?l28 ?c28 ?k28 ?a29 ?l29 ?c29 ?k29 ?a30 ?l30 ?c30 ?k30 ?a31 ?l31 ?c31 ?k31 ?a32 ?l32 ?c32 ?k32 ?a33 ?l33 ?c33 ?k33 ?a34 ?l34 ?c34 ?k34 ?a35 ?l35 ?c35 ?k35 ?a36 ?l36 ?c36 ?k36 ?a37 ?l37 ?c37 ?k37 ?a38 ?l38 ?c38 ?k38 ?a39 ?l39 ?c39 ?k39 ?a40 ?l40 ?c40 ?k40 ?a41 ?l41 ?c41 ?k41 ?a42 ?l42 ?c42 ?k42 ?a43 ?l43 ?c43 ?k43 ?a44 ?l44 ?c44 ?k44 ?a45 ?l45 ?c45 ?k45 ?a46 ?l46 ?c46 ?k46 ?a47 ?l47 ?c47 ?k47 ?a48 ?l48 ?c48 ?k48 ?a49 ?l49 ?c49 ?k49 ?a50 ?l50 ?c50 ?k50 ?a51 ?l51 ?c51 ?k51 ?a52 ?l52 ?c52 ?k52 ?a53 ?l53 ?c53 ?k53 ?a54 ?l54 ?c54 ?k54 ?a55 ?l55 ?c55 ?k55 ?a56 ?l56 ?c56 ?k56 ?y0 ?z0 ?z1 ?z2 ?z3 ?z4 ?z5 ?z6 ?z7 ?z8 ?z9 ?z10 ?z11 ?z12 ?z13 ?z14 ?z15 ?z16 ?z17 ?z18 ?z19 ?z20 ?z21 ?inI ?lI ?cI ?lcd ?hvs ?hfil ?lcc ?cD ?hln ?hpa ?har ?hsc ?hsu ?htop ?msu ?opq ?tyI ?gtO ?tkO ?bI ?aC0 ?xL0 ?hb0 ?bC0 ?aC1 ?xL1 ?hb1 ?bC1 ?aC2 ?xL2 ?hb2 ?bC2 ?aC3 ?xL3 ?hb3 ?bC3 ?prC ?dg
    (case a0 => k_is); (case l0 => k_is); (case c0 => k_is); (case k0 => k_is); (case a1 => k_is); (case l1 => k_is); (case c1 => k_is); (case k1 => k_is); (case a2 => k_is); (case l2 => k_is); (case c2 => k_is); (case k2 => k_is); (case a3 => k_is); (case l3 => k_is); (case c3 => k_is); (case k3 => k_is); (case a4 => k_is); (case l4 => k_is); (case c4 => k_is); (case k4 => k_is); (case a5 => k_is); (case l5 => k_is); (case c5 => k_is); (case k5 => k_is); (case a6 => k_is); (case l6 => k_is); (case c6 => k_is); (case k6 => k_is); (case a7 => k_is); (case l7 => k_is); (case c7 => k_is); (case k7 => k_is); (case a8 => k_is); (case l8 => k_is); (case c8 => k_is); (case k8 => k_is); (case a9 => k_is); (case l9 => k_is); (case c9 => k_is); (case k9 => k_is); (case a10 => k_is); (case l10 => k_is); (case c10 => k_is); (case k10 => k_is); (case a11 => k_is); (case l11 => k_is); (case c11 => k_is); (case k11 => k_is); (case a12 => k_is); (case l12 => k_is); (case c12 => k_is); (case k12 => k_is); (case a13 => k_is); (case l13 => k_is); (case c13 => k_is); (case k13 => k_is); (case a14 => k_is); (case l14 => k_is); (case c14 => k_is); (case k14 => k_is); (case a15 => k_is); (case l15 => k_is); (case c15 => k_is); (case k15 => k_is); (case a16 => k_is); (case l16 => k_is); (case c16 => k_is); (case k16 => k_is); (case a17 => k_is); (case l17 => k_is); (case c17 => k_is); (case k17 => k_is); (case a18 => k_is); (case l18 => k_is); (case c18 => k_is); (case k18 => k_is); (case a19 => k_is); (case l19 => k_is); (case c19 => k_is); (case k19 => k_is); (case a20 => k_is); (case l20 => k_is); (case c20 => k_is); (case k20 => k_is); (case a21 => k_is); (case l21 => k_is); (case c21 => k_is); (case k21 => k_is); (case a22 => k_is); (case l22 => k_is); (case c22 => k_is); (case k22 => k_is); (case a23 => k_is); (case l23 => k_is); (case c23 => k_is); (case k23 => k_is); (case a24 => k_is); (case l24 => k_is); (case c24 => k_is); (case k24 => k_is); (case a25 => k_is); (case l25 => k_is); (case c25 => k_is); (case k25 => k_is); (case a26 => k_is); (case l26 => k_is); (case c26 => k_is); (case k26 => k_is); (case a27 => k_is); (case l27 => k_is); (case c27 => k_is); (case k27 => k_is); (case a28 => k_is); (case l28 => k_is); (case c28 => k_is); (case k28 => k_is); (case a29 => k_is); (case l29 => k_is); (case c29 => k_is); (case k29 => k_is); (case a30 => k_is); (case l30 => k_is); (case c30 => k_is); (case k30 => k_is); (case a31 => k_is); (case l31 => k_is); (case c31 => k_is); (case k31 => k_is); (case a32 => k_is); (case l32 => k_is); (case c32 => k_is); (case k32 => k_is); (case a33 => k_is); (case l33 => k_is); (case c33 => k_is); (case k33 => k_is); (case a34 => k_is); (case l34 => k_is); (case c34 => k_is); (case k34 => k_is); (case a35 => k_is); (case l35 => k_is); (case c35 => k_is); (case k35 => k_is); (case a36 => k_is); (case l36 => k_is); (case c36 => k_is); (case k36 => k_is); (case a37 => k_is); (case l37 => k_is); (case c37 => k_is); (case k37 => k_is); (case a38 => k_is); (case l38 => k_is); (case c38 => k_is); (case k38 => k_is); (case a39 => k_is); (case l39 => k_is); (case c39 => k_is); (case k39 => k_is); (case a40 => k_is); (case l40 => k_is); (case c40 => k_is); (case k40 => k_is); (case a41 => k_is); (case l41 => k_is); (case c41 => k_is); (case k41 => k_is); (case a42 => k_is); (case l42 => k_is); (case c42 => k_is); (case k42 => k_is); (case a43 => k_is); (case l43 => k_is); (case c43 => k_is); (case k43 => k_is); (case a44 => k_is); (case l44 => k_is); (case c44 => k_is); (case k44 => k_is); (case a45 => k_is); (case l45 => k_is); (case c45 => k_is); (case k45 => k_is); (case a46 => k_is); (case l46 => k_is); (case c46 => k_is); (case k46 => k_is); (case a47 => k_is); (case l47 => k_is); (case c47 => k_is); (case k47 => k_is); (case a48 => k_is); (case l48 => k_is); (case c48 => k_is); (case k48 => k_is); (case a49 => k_is); (case l49 => k_is); (case c49 => k_is); (case k49 => k_is); (case a50 => k_is); (case l50 => k_is); (case c50 => k_is); (case k50 => k_is); (case a51 => k_is); (case l51 => k_is); (case c51 => k_is); (case k51 => k_is); (case a52 => k_is); (case l52 => k_is); (case c52 => k_is); (case k52 => k_is); (case a53 => k_is); (case l53 => k_is); (case c53 => k_is); (case k53 => k_is); (case a54 => k_is); (case l54 => k_is); (case c54 => k_is); (case k54 => k_is); (case a55 => k_is); (case l55 => k_is); (case c55 => k_is); (case k55 => k_is); (case a56 => k_is); (case l56 => k_is); (case c56 => k_is); (case k56 => k_is); (case y0 => k_is); (case z0 => k_is); (case z1 => k_is); (case z2 => k_is); (case z3 => k_is); (case z4 => k_is); (case z5 => k_is); (case z6 => k_is); (case z7 => k_is); (case z8 => k_is); (case z9 => k_is); (case z10 => k_is); (case z11 => k_is); (case z12 => k_is); (case z13 => k_is); (case z14 => k_is); (case z15 => k_is); (case z16 => k_is); (case z17 => k_is); (case z18 => k_is); (case z19 => k_is); (case z20 => k_is); (case z21 => k_is); (case aC0 => k_is); (case xL0 => k_is); (case aC1 => k_is); (case xL1 => k_is); (case aC2 => k_is); (case xL2 => k_is); (case aC3 => k_is); (case xL3 => k_is); (case inI => k_is); (case lI => k_is); (case cI => k_is); (case lcd => k_is); (case hvs => rfl); (case hfil => decide +kernel); (case lcc => k_is); (case cD => k_is); (case hln => first | rfl | decide); (case hpa => rfl); (case har => first | rfl | decide); (case hsc => decide +kernel); (case hsu => rfl); (case htop => decide +kernel); (case msu => k_is); (case opq => k_is); (case tyI => k_is); (case gtO => k_is); (case tkO => k_is); (case bI => exact fun us hl => match us, hl with | [_, _], _ => rfl); (case hb0 => decide +kernel); (case bC0 => kernel_rfl); (case hb1 => decide +kernel); (case bC1 => kernel_rfl); (case hb2 => decide +kernel); (case bC2 => kernel_rfl); (case hb3 => decide +kernel); (case bC3 => kernel_rfl); (case prC => kernel_rfl); (case dg => k_is)

