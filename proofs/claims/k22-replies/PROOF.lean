import PyProof.Rows.All
import Wide.All
import OpenK.AllK
import Wide.FinOn
import HandS.ForMost
import HandS.Rev
import HandS.Codes
import HandS.Wide
import HandS.Style
import HandS.Deep
import HandS.Zip
import HandS.ReplaceLit
import HandS.IsInst
import KE.KDictList
import HandS.SortOrd
import HandS.TupSets
import KE.KeyNested
import KE.LtSeq
import KE.KSortTup
import PyProof.Rows.SortKeyStr
import HandS.SetFor
import HandS.More
import PySem.Challenge.RW_talkcourt_k22_replies
set_option Elab.async false
set_option linter.all false
set_option maxRecDepth 100000
set_option maxHeartbeats 4000000
namespace TC
open PySem PySem.Spec PyProof.Rows L2

section
variable {prog : Program} {w : World} {A : Around} {E : Value → Shared → Prop} {s : Shared}
/-- a list that stands empty takes what a reverse iterator gives -/
theorem rev_fill {R : Result → Shared → Prop} {it l S : Addr} {items : Array Value} {c₀ : Nat} (hh : A.handled = none) (hit : s.heap.IsRevIter it l ((items.size : Int) - 1)) (hl : s.heap.IsList l items) (hne : l ≠ it)
    (hSi : S ≠ it) (hSl : S ≠ l) (hn : items.size ≤ sizeLine) (hS : s.heap.get? S = some { cls := .type "list", data := .seq #[] c₀ })
    (hR : ∀ h' tk acc c', (∀ b o, b ≠ S → b ≠ it → s.heap.get? b = some o → h'.get? b = some o) → h'.get? S = some { cls := .type "list", dict := none, data := .seq acc c', slots := #[] } →
      ItemsOf (fun i v => items[items.size - 1 - i]? = some v) acc items.size → R (.ok (.ret .none)) { s with heap := h', toks := tk }) :
    wpAny (model prog w) A.in1 (Builtin.List.listExtendWith (.ref S) (.ref it) .none)
      (fun fin t => match fin with | .done f => R (.ok f) t | .again c => c.quiet = true ∧ codeAny (model prog w) A c R t) (fun e t => R (.error e) t) s := by
  have W := (Walks.listRev (prog := prog) (w := w) (A := A.in1) hh it l hne items).toS
  have hSf : S ∉ [it, l] := by
    intro q
    rcases List.mem_cons.mp q with q | q
    · exact hSi q
    · exact hSl (List.mem_singleton.mp q)
  have hT : s.TypeIs (.ref it) "list_reverseiterator" := Heap.IsRevIter.typeIs (s := s) hit
  have h1 : Builtin.List.listSameRef (.ref S) (.ref it) = false := by simp [Builtin.List.listSameRef, hSi]
  unfold Builtin.List.listExtendWith
  refine wpAny_bind (wpAny_typeOf hT ?_)
  rw [if_neg (by rw [h1]; decide)]
  refine wpAny_bind (wpAny_pyIter_revIter hit ?_)
  refine wpAny_bind (wpAny_holding ?_)
  unfold Builtin.List.listLengthHint
  refine wpAny_bind (wpAny_specialOf hT RT.nolen_lri ?_)
  show wpAny _ A.in1 (specialOf (Value.ref it) (Str.ofString "__length_hint__") >>= _) _ _ _
  refine wpAny_bind (wpAny_specialOf hT RT.hint_lri ?_)
  generalize hid : ("list_reverseiterator.__length_hint__" : String) = id0
  wp_delta
  rw [show splitId id0 = some ("list_reverseiterator", "__length_hint__") from by subst hid; decide +kernel]
  subst hid
  refine wpAny_bind (wpAny_isInstance (b := true) hT (by rw [isSubtype_type]; kernel_rfl) ?_)
  refine wpAny_pure ?_
  rw [if_neg (by decide)]
  have e0 : ((items.size : Nat) : Int) - 1 - ((0 : Nat) : Int) = (items.size : Int) - 1 := by omega
  refine wpAny_pure ⟨plainId_quiet PySem.F.plain_extend_loop _, codeAny_extend_loopS W hn _ hSf _ items.size 0 _ _ _ rfl (Nat.zero_le _) ⟨Nat.zero_le _, by rw [e0]; exact hit, hl⟩ hS (ItemsOf.nil _) fun t acc c hm hS' hacc => ?_⟩
  rw [Moved.eq_with hm]
  refine hR t.heap t.toks acc c (fun b o hb hb2 e => hm.heap b o (fun q => ?_) e) hS' hacc
  rcases List.mem_cons.mp q with q | q
  · exact hb q
  · exact hb2 (List.mem_singleton.mp q)
theorem rev_init {R : Result → Shared → Prop} {it l S : Addr} {items : Array Value} (hh : A.handled = none) (hit : s.heap.IsRevIter it l ((items.size : Int) - 1)) (hl : s.heap.IsList l items) (hne : l ≠ it)
    (hSi : S ≠ it) (hSl : S ≠ l) (hn : items.size ≤ sizeLine) (hS : s.heap.get? S = some { cls := .type "list", data := .seq #[] })
    (hR : ∀ h' tk acc c', (∀ b o, b ≠ S → b ≠ it → s.heap.get? b = some o → h'.get? b = some o) → h'.get? S = some { cls := .type "list", dict := none, data := .seq acc c', slots := #[] } →
      ItemsOf (fun i v => items[items.size - 1 - i]? = some v) acc items.size → R (.ok (.ret .none)) { s with heap := h', toks := tk }) :
    wpAny (model prog w) A.in1 (Builtin.«list.__init__» ⟨[.ref S, .ref it], []⟩)
      (fun fin t => match fin with | .done f => R (.ok f) t | .again c => c.quiet = true ∧ codeAny (model prog w) A c R t) (fun e t => R (.error e) t) s := by
  show wpAny _ _ (do let was ← Builtin.List.listItems (.ref S); Builtin.List.listUpdate (.ref S) (fun _ => #[]); letGo was.toList.reverse; Builtin.List.listExtendWith (.ref S) (.ref it) .none) _ _ s
  refine wpAny_bind ?_
  unfold Builtin.List.listItems
  refine wpAny_bind (wpAny_seqItems hS rfl (wpAny_pure ?_))
  show wpAny _ _ (updateSeq S (fun _ => #[]) >>= fun _ => letGo (#[] : Array Value).toList.reverse >>= fun _ => Builtin.List.listExtendWith (.ref S) (.ref it) .none) _ _ s
  refine wpAny_bind (wpAny_updateSeq hS rfl ?_)
  have hS2 := Heap.get?_update_self (Obj.mapSeq (fun _ => (#[] : Array Value))) hS rfl
  have oth : ∀ b o, b ≠ S → s.heap.get? b = some o → (s.heap.update S (Obj.mapSeq (fun _ => (#[] : Array Value)))).get? b = some o :=
    fun b o hb e => (Heap.get?_update_other _ _ (Ne.symm hb)).trans e
  refine wpAny_bind (wpAny_letGo ?_)
  have hit2 := hit.at fun o e => oth it o (Ne.symm hSi) e
  obtain ⟨o, e, c⟩ := id hl
  have hl2 : (s.heap.update S (Obj.mapSeq (fun _ => (#[] : Array Value)))).IsList l items := ⟨o, oth _ o (Ne.symm hSl) e, c⟩
  refine rev_fill (c₀ := _) hh hit2 hl2 hne hSi hSl hn hS2 fun h' tk acc c' hk hS' hacc => ?_
  exact hR h' tk acc c' (fun b o hb hb2 e => hk b o hb hb2 (oth b o hb e)) hS' hacc
/-- list(it), it a reverse iterator over a list -/
theorem call_list_rev {it l : Addr} {items : Array Value} {Q : Value → Shared → Prop} (hh : A.handled = none) (hit : s.heap.IsRevIter it l ((items.size : Int) - 1)) (hl : s.heap.IsList l items) (hne : l ≠ it) (hn : items.size ≤ sizeLine)
    (hQ : ∀ h' tk acc c', (∀ b o, b ≠ it → s.heap.get? b = some o → h'.get? b = some o) → h'.get? s.heap.objs.size = some { cls := .type "list", dict := none, data := .seq acc c', slots := #[] } →
      ItemsOf (fun i v => items[items.size - 1 - i]? = some v) acc items.size → Q (.ref s.heap.objs.size) { s with heap := h', toks := tk }) :
    wpAny (model prog w) A (call (.type "list") [.ref it]) Q E s := by
  refine callType_codes (Q₁ := fun obj t => obj = .ref s.heap.objs.size ∧ t = { s with heap := s.heap.push { cls := .type "list", data := .seq #[] } }) PySem.F.called_list (PySem.F.typeCall_list_1 _) PySem.F.entry_list_init
    (code_list_new _ ⟨rfl, rfl⟩) fun obj t ht => ?_
  obtain ⟨rfl, rfl⟩ := ht
  obtain ⟨oi, hoi, _⟩ := id hit
  obtain ⟨ol, hol, _⟩ := id hl
  have hS : (s.heap.push { cls := .type "list", data := .seq #[] }).get? s.heap.objs.size = some { cls := .type "list", data := .seq #[] } := Heap.get?_push_size _ rfl
  have hSi : s.heap.objs.size ≠ it := Nat.ne_of_gt (Heap.lt_size hoi)
  have hSl : s.heap.objs.size ≠ l := Nat.ne_of_gt (Heap.lt_size hol)
  refine ⟨⟨_, hS, rfl⟩, PySem.F.args_list_init_2 _ _, rev_init (A := A.in1) hh (hit.at fun o e => Heap.get?_push_of_some _ e) (hl.push _) hne hSi hSl hn hS fun h' tk acc c' hk hS' hacc => ?_⟩
  exact ⟨rfl, hQ h' tk acc c' (fun b o hb e => hk b o (Nat.ne_of_lt (Heap.lt_size e)) hb (Heap.get?_push_of_some _ e)) hS' hacc⟩
end
/-- list(reversed(x)), x a list: a new list -/
def tListRev (K : PySem.W.Frag) (te : TE) : TE := fun σ H Q => te σ H fun v H1 => ∃ (a : Addr) (xs : List V), v = .ref a ∧ SqL K H1 a xs ∧ ∀ q, H1 q = none → Q (.ref q) (upd H1 q (.lst xs.reverse))
section
variable {X : Cx}
theorem pe_listRev {e : Expr} {te : TE} {p p2 pos pos2 : Pos} (hc : X.calm = true) (hg : Gl X "list") (hm : X.mg "list" = none) (hg2 : Gl X "reversed") (hm2 : X.mg "reversed" = none) (he : PE X e te)
    (hs : starEach [e] X.env = (false, eval e X.env) :: starEach [] X.env := by rfl)
    (hs2 : starEach [.Call (.Name "reversed" p2) [e] [] pos2] X.env = (false, eval (.Call (.Name "reversed" p2) [e] [] pos2) X.env) :: starEach [] X.env := by rfl) :
    PE X (.Call (.Name "list" p) [.Call (.Name "reversed" p2) [e] [] pos2] [] pos) (tListRev X.K te) := by
  refine ⟨fun pins s σ H Q I h => ?_⟩
  refine Call_ (ld_blt I hg hm boot_list (PyProof.Rows.callWith_type1 (args_cons (Call_ (ld_blt I hg2 hm2 PyProof.Rows.boot_reversed (PyProof.Rows.callWith_type1 (args_cons (thn (he.run pins s σ H _ I h) fun u s1 ⟨v, H1, I1, r1, q1⟩ => args_nil ?_) hs) hs rfl))) hs2) hs2 rfl))
  obtain ⟨a, xs, rfl, hq, q⟩ := q1
  obtain rfl : u = Value.ref a := r1
  obtain ⟨its, rv, pl, hz⟩ := I1.list hq
  refine call_reversed_list pl.isList (args_nil ?_)
  have hl := pl.isList
  obtain ⟨ol, hol, _⟩ := id hl
  have hne : a ≠ s1.heap.objs.size := Nat.ne_of_lt (Heap.lt_size hol)
  have hn : its.toArray.size ≤ sizeLine := by rw [List.size_toArray, ← rv.length]; exact hz
  have eS : (s1.heap.push (revObj a ((its.toArray.size : Int) - 1))).objs.size = s1.heap.objs.size + 1 := size_push' _ _
  refine call_list_rev (s := { s1 with heap := s1.heap.push (revObj a ((its.toArray.size : Int) - 1)) }) (I1.ok.hd hc) ⟨_, Heap.get?_push_size _ rfl, rfl, rfl⟩ (hl.push _) hne hn fun h' tk acc c' hk hS' hi => ?_
  have k : ∀ b o, s1.heap.get? b = some o → h'.get? b = some o := fun b o e => hk b o (Nat.ne_of_lt (Heap.lt_size e)) (Heap.get?_push_of_some _ e)
  have hp : s1.heap.objs.size ≤ (s1.heap.push (revObj a ((its.toArray.size : Int) - 1))).objs.size := by rw [eS]; exact Nat.le_succ _
  have I3 : Inv X pins σ (upd H1 (s1.heap.push (revObj a ((its.toArray.size : Int) - 1))).objs.size (.lst xs.reverse)) { s1 with heap := h', toks := tk } :=
    I1.laid (t' := tk) k hp (show ObjOk X.prog X.w _ _ _ (.lst xs.reverse) from ⟨by rw [List.length_reverse]; exact hz, acc.toList, c', RT.vals_rev rv hi, by rw [Array.toArray_toList]; exact hS'⟩)
  exact ⟨.ref _, _, I3, rfl, q _ (I1.hok.fresh hp)⟩
end
end TC

/-! the order of nested data -/
namespace TC
open PySem PySem.Spec PyProof.Rows L2
abbrev ND := NestedKey
/-! ### texts -/
def ltS (a b : Str) : Bool := decide (a.cps.toList < b.cps.toList)
theorem str_ext {a b : Str} (h : a.cps.toList = b.cps.toList) : a = b := by
  cases a with
  | mk x =>
    cases b with
    | mk y =>
      have e : x = y := Array.toList_inj.mp h
      rw [e]
theorem ltS_irr (a : Str) : ltS a a = false := decide_eq_false (List.lt_irrefl _)
theorem ltS_tr {a b c : Str} (h1 : ltS a b = true) (h2 : ltS b c = true) : ltS a c = true :=
  decide_eq_true (List.lt_trans (of_decide_eq_true h1) (of_decide_eq_true h2))
theorem lst_tri : ∀ a b : List Nat, a < b ∨ a = b ∨ b < a
  | [], [] => .inr (.inl rfl)
  | [], _ :: _ => .inl (List.nil_lt_cons _ _)
  | _ :: _, [] => .inr (.inr (List.nil_lt_cons _ _))
  | x :: xs, y :: ys => by
    rcases Nat.lt_trichotomy x y with h | h | h
    · exact .inl (List.cons_lt_cons_iff.mpr (.inl h))
    · subst h
      rcases lst_tri xs ys with q | q | q
      · exact .inl (List.cons_lt_cons_iff.mpr (.inr ⟨rfl, q⟩))
      · exact .inr (.inl (by rw [q]))
      · exact .inr (.inr (List.cons_lt_cons_iff.mpr (.inr ⟨rfl, q⟩)))
    · exact .inr (.inr (List.cons_lt_cons_iff.mpr (.inl h)))
theorem ltS_tri (a b : Str) : ltS a b = true ∨ a = b ∨ ltS b a = true := by
  rcases lst_tri a.cps.toList b.cps.toList with h | h | h
  · exact .inl (decide_eq_true h)
  · exact .inr (.inl (str_ext h))
  · exact .inr (.inr (decide_eq_true h))
/-! ### nested data -/
mutual
def ltD : ND → ND → Bool
  | .none, .none => false
  | .none, .num _ => true
  | .none, .text _ => true
  | .none, .tup _ => true
  | .num _, .none => false
  | .num a, .num b => decide (a < b)
  | .num _, .text _ => true
  | .num _, .tup _ => true
  | .text _, .none => false
  | .text _, .num _ => false
  | .text a, .text b => ltS a b
  | .text _, .tup _ => true
  | .tup _, .none => false
  | .tup _, .num _ => false
  | .tup _, .text _ => false
  | .tup xs, .tup ys => ltL xs ys
def ltL : List ND → List ND → Bool
  | [], [] => false
  | [], _ :: _ => true
  | _ :: _, [] => false
  | x :: xs, y :: ys => if NestedKey.beq x y = true then ltL xs ys else ltD x y
end
mutual
theorem ltD_irr : ∀ x : ND, ltD x x = false
  | .none => rfl
  | .num a => by rw [ltD]; exact decide_eq_false (Int.lt_irrefl _)
  | .text a => by rw [ltD]; exact ltS_irr a
  | .tup xs => by rw [ltD]; exact ltL_irr xs
theorem ltL_irr : ∀ x : List ND, ltL x x = false
  | [] => rfl
  | x :: xs => by rw [ltL, NestedKey.beq_self, if_pos rfl]; exact ltL_irr xs
end
theorem beq_no {x y : ND} (h : x ≠ y) : NestedKey.beq x y = false := by
  cases e : NestedKey.beq x y with
  | false => rfl
  | true => exact absurd (NestedKey.eq_of_beq x y e) h
theorem ltL_same {x : ND} {xs ys : List ND} : ltL (x :: xs) (x :: ys) = ltL xs ys := by rw [ltL, NestedKey.beq_self, if_pos rfl]
theorem ltL_ne {x y : ND} {xs ys : List ND} (h : x ≠ y) : ltL (x :: xs) (y :: ys) = ltD x y := by rw [ltL, beq_no h, if_neg Bool.false_ne_true]
mutual
theorem ltD_tri : ∀ x y : ND, ltD x y = true ∨ x = y ∨ ltD y x = true
  | .none, .none => .inr (.inl rfl)
  | .none, .num _ => .inl rfl
  | .none, .text _ => .inl rfl
  | .none, .tup _ => .inl rfl
  | .num _, .none => .inr (.inr rfl)
  | .num a, .num b => by
    rcases Int.lt_trichotomy a b with h | h | h
    · exact .inl (by rw [ltD]; exact decide_eq_true h)
    · exact .inr (.inl (by rw [h]))
    · exact .inr (.inr (by rw [ltD]; exact decide_eq_true h))
  | .num _, .text _ => .inl rfl
  | .num _, .tup _ => .inl rfl
  | .text _, .none => .inr (.inr rfl)
  | .text _, .num _ => .inr (.inr rfl)
  | .text a, .text b => by
    rcases ltS_tri a b with h | h | h
    · exact .inl (by rw [ltD]; exact h)
    · exact .inr (.inl (by rw [h]))
    · exact .inr (.inr (by rw [ltD]; exact h))
  | .text _, .tup _ => .inl rfl
  | .tup _, .none => .inr (.inr rfl)
  | .tup _, .num _ => .inr (.inr rfl)
  | .tup _, .text _ => .inr (.inr rfl)
  | .tup xs, .tup ys => by
    rcases ltL_tri xs ys with h | h | h
    · exact .inl (by rw [ltD]; exact h)
    · exact .inr (.inl (by rw [h]))
    · exact .inr (.inr (by rw [ltD]; exact h))
theorem ltL_tri : ∀ x y : List ND, ltL x y = true ∨ x = y ∨ ltL y x = true
  | [], [] => .inr (.inl rfl)
  | [], _ :: _ => .inl rfl
  | _ :: _, [] => .inr (.inr rfl)
  | x :: xs, y :: ys => by
    rcases ltD_tri x y with h | h | h
    · have ne : x ≠ y := fun e => by rw [e, ltD_irr] at h; cases h
      exact .inl (by rw [ltL_ne ne]; exact h)
    · subst h
      rw [ltL_same, ltL_same]
      rcases ltL_tri xs ys with q | q | q
      · exact .inl q
      · exact .inr (.inl (by rw [q]))
      · exact .inr (.inr q)
    · have ne : y ≠ x := fun e => by rw [e, ltD_irr] at h; cases h
      exact .inr (.inr (by rw [ltL_ne ne]; exact h))
end
mutual
theorem ltD_tr : ∀ x y z : ND, ltD x y = true → ltD y z = true → ltD x z = true
  | .none, .none, _, h, _ => by cases h
  | .none, .num _, .none, _, h => by cases h
  | .none, .num _, .num _, _, _ => rfl
  | .none, .num _, .text _, _, _ => rfl
  | .none, .num _, .tup _, _, _ => rfl
  | .none, .text _, .none, _, h => by cases h
  | .none, .text _, .num _, _, _ => rfl
  | .none, .text _, .text _, _, _ => rfl
  | .none, .text _, .tup _, _, _ => rfl
  | .none, .tup _, .none, _, h => by cases h
  | .none, .tup _, .num _, _, _ => rfl
  | .none, .tup _, .text _, _, _ => rfl
  | .none, .tup _, .tup _, _, _ => rfl
  | .num _, .none, _, h, _ => by cases h
  | .num _, .num _, .none, _, h => by cases h
  | .num a, .num b, .num c, h1, h2 => by
    rw [ltD] at h1 h2 ⊢
    exact decide_eq_true (Int.lt_trans (of_decide_eq_true h1) (of_decide_eq_true h2))
  | .num _, .num _, .text _, _, _ => rfl
  | .num _, .num _, .tup _, _, _ => rfl
  | .num _, .text _, .none, _, h => by cases h
  | .num _, .text _, .num _, _, h => by cases h
  | .num _, .text _, .text _, _, _ => rfl
  | .num _, .text _, .tup _, _, _ => rfl
  | .num _, .tup _, .none, _, h => by cases h
  | .num _, .tup _, .num _, _, h => by cases h
  | .num _, .tup _, .text _, _, h => by cases h
  | .num _, .tup _, .tup _, _, _ => rfl
  | .text _, .none, _, h, _ => by cases h
  | .text _, .num _, _, h, _ => by cases h
  | .text _, .text _, .none, _, h => by cases h
  | .text _, .text _, .num _, _, h => by cases h
  | .text a, .text b, .text c, h1, h2 => by
    rw [ltD] at h1 h2 ⊢
    exact ltS_tr h1 h2
  | .text _, .text _, .tup _, _, _ => rfl
  | .text _, .tup _, .none, _, h => by cases h
  | .text _, .tup _, .num _, _, h => by cases h
  | .text _, .tup _, .text _, _, h => by cases h
  | .text _, .tup _, .tup _, _, _ => rfl
  | .tup _, .none, _, h, _ => by cases h
  | .tup _, .num _, _, h, _ => by cases h
  | .tup _, .text _, _, h, _ => by cases h
  | .tup _, .tup _, .none, _, h => by cases h
  | .tup _, .tup _, .num _, _, h => by cases h
  | .tup _, .tup _, .text _, _, h => by cases h
  | .tup xs, .tup ys, .tup zs, h1, h2 => by
    rw [ltD] at h1 h2 ⊢
    exact ltL_tr xs ys zs h1 h2
theorem ltL_tr : ∀ x y z : List ND, ltL x y = true → ltL y z = true → ltL x z = true
  | [], [], _, h, _ => by cases h
  | [], _ :: _, [], _, h => by cases h
  | [], _ :: _, _ :: _, _, _ => rfl
  | _ :: _, [], _, h, _ => by cases h
  | _ :: _, _ :: _, [], _, h => by cases h
  | x :: xs, y :: ys, z :: zs, h1, h2 => by
    by_cases e1 : x = y
    · subst e1
      rw [ltL_same] at h1
      by_cases e2 : x = z
      · subst e2
        rw [ltL_same] at h2 ⊢
        exact ltL_tr xs ys zs h1 h2
      · rw [ltL_ne e2] at h2 ⊢
        exact h2
    · rw [ltL_ne e1] at h1
      by_cases e2 : y = z
      · subst e2
        rw [ltL_ne e1]
        exact h1
      · rw [ltL_ne e2] at h2
        have h3 := ltD_tr x y z h1 h2
        have ne : x ≠ z := fun e => by rw [e, ltD_irr] at h3; cases h3
        rw [ltL_ne ne]
        exact h3
end
theorem ltD_asym {x y : ND} (h : ltD x y = true) : ltD y x = false := by
  cases e : ltD y x with
  | false => rfl
  | true =>
    have q := ltD_tr x y x h e
    rw [ltD_irr] at q
    cases q
theorem ltD_eq {x y : ND} (h1 : ltD x y = false) (h2 : ltD y x = false) : x = y := by
  rcases ltD_tri x y with h | h | h
  · rw [h] at h1; cases h1
  · exact h
  · rw [h] at h2; cases h2
theorem swoD : SrtO.Swo ltD := ⟨fun _ _ => ltD_asym, fun x y z h1 h2 => by
  cases e : ltD z x with
  | false => rfl
  | true =>
    rcases ltD_tri x y with h | h | h
    · have q := ltD_tr z x y e h
      rw [h2] at q
      cases q
    · subst h
      rw [h2] at e
      cases e
    · rw [h1] at h
      cases h⟩
/-! ### data of which < may be asked -/
mutual
def okD : ND → ND → Bool
  | .num _, .num _ => false
  | .text _, .text _ => true
  | .tup xs, .tup ys => okL xs ys
  | .none, _ => false
  | .num _, .none => false
  | .num _, .text _ => false
  | .num _, .tup _ => false
  | .text _, .none => false
  | .text _, .num _ => false
  | .text _, .tup _ => false
  | .tup _, .none => false
  | .tup _, .num _ => false
  | .tup _, .text _ => false
def okL : List ND → List ND → Bool
  | [], _ => true
  | _ :: _, [] => true
  | x :: xs, y :: ys => if NestedKey.beq x y = true then okL xs ys else okD x y
end
theorem okL_ne {x y : ND} {xs ys : List ND} (h : x ≠ y) : okL (x :: xs) (y :: ys) = okD x y := by rw [okL, beq_no h, if_neg Bool.false_ne_true]
theorem okL_same {x : ND} {xs ys : List ND} : okL (x :: xs) (x :: ys) = okL xs ys := by rw [okL, NestedKey.beq_self, if_pos rfl]
abbrev eAt (xs ys : List ND) (j : Nat) : Bool := NestedKey.beq (xs.getD j .none) (ys.getD j .none)
abbrev rAt (xs ys : List ND) (j : Nat) : Bool := ltD (xs.getD j .none) (ys.getD j .none)
theorem firstLt_ltL : ∀ xs ys : List ND, SeqAt.firstLt (eAt xs ys) (rAt xs ys) (decide (xs.length < ys.length)) (List.range (min xs.length ys.length)) = ltL xs ys
  | [], [] => rfl
  | [], _ :: _ => by simp [SeqAt.firstLt, ltL]
  | _ :: _, [] => by simp [SeqAt.firstLt, ltL]
  | x :: xs, y :: ys => by
    have ih := firstLt_ltL xs ys
    have e1 : min (x :: xs).length (y :: ys).length = min xs.length ys.length + 1 := by simp only [List.length_cons]; omega
    have e2 : decide ((x :: xs).length < (y :: ys).length) = decide (xs.length < ys.length) := by
      simp only [List.length_cons]
      exact decide_eq_decide.mpr (by omega)
    have sh : ∀ (l : List Nat), SeqAt.firstLt (eAt (x :: xs) (y :: ys)) (rAt (x :: xs) (y :: ys)) (decide (xs.length < ys.length)) (l.map (· + 1)) = SeqAt.firstLt (eAt xs ys) (rAt xs ys) (decide (xs.length < ys.length)) l := by
      intro l
      induction l with
      | nil => rfl
      | cons j l ih =>
        rw [List.map_cons]
        show (if eAt xs ys j = true then SeqAt.firstLt (eAt (x :: xs) (y :: ys)) (rAt (x :: xs) (y :: ys)) (decide (xs.length < ys.length)) (l.map (· + 1)) else rAt xs ys j) = (if eAt xs ys j = true then SeqAt.firstLt (eAt xs ys) (rAt xs ys) (decide (xs.length < ys.length)) l else rAt xs ys j)
        rw [ih]
    rw [e1, e2, List.range_succ_eq_map]
    show (if NestedKey.beq x y = true then SeqAt.firstLt (eAt (x :: xs) (y :: ys)) (rAt (x :: xs) (y :: ys)) (decide (xs.length < ys.length)) ((List.range (min xs.length ys.length)).map Nat.succ) else ltD x y) = ltL (x :: xs) (y :: ys)
    have sh' := sh (List.range (min xs.length ys.length))
    rw [ltL, show ((List.range (min xs.length ys.length)).map Nat.succ) = (List.range (min xs.length ys.length)).map (· + 1) from rfl, sh', ih]
/-- what is asked at the places ahead of the first that differs -/
theorem okL_at : ∀ {xs ys : List ND} {j : Nat}, okL xs ys = true → j < xs.length → j < ys.length → eAt xs ys j = false → (∀ i, i < j → eAt xs ys i = true) → okD (xs.getD j .none) (ys.getD j .none) = true
  | [], _, _, _, h1, _, _, _ => absurd h1 (Nat.not_lt_zero _)
  | _ :: _, [], _, _, _, h2, _, _ => absurd h2 (Nat.not_lt_zero _)
  | x :: xs, y :: ys, 0, h, _, _, he, _ => by
    have he' : NestedKey.beq x y = false := he
    rw [okL, he', if_neg Bool.false_ne_true] at h
    exact h
  | x :: xs, y :: ys, j + 1, h, h1, h2, he, hb => by
    have h0 : NestedKey.beq x y = true := hb 0 (Nat.succ_pos _)
    rw [okL, h0, if_pos rfl] at h
    exact okL_at (xs := xs) (ys := ys) (j := j) h (Nat.lt_of_succ_lt_succ h1) (Nat.lt_of_succ_lt_succ h2) he fun i hi => hb (i + 1) (Nat.succ_lt_succ hi)
end TC

/-! < of tuples, asked only where the first difference is; sorting nested data -/
namespace TC
open PySem PySem.Spec PyProof.Rows L2 SeqAt
open AutoSeq1 (wpAny_loadPart')
open MeetsSeq MeetsSeq2 MeetsSeq3 SeqRoads2
section
theorem tup_lt_first (l b : Addr) (items items2 : Array Value) (n n2 : Nat) (dd dd2 : Option Addr) (sl sl2 : Array (Option Value)) (e r : Nat → Bool) :
    Meets (Builtin.«tuple.__lt__» ⟨[.ref l, .ref b], []⟩)
      (fun A R s => s.heap.get? l = some { cls := .type "tuple", dict := dd, data := .seq items n, slots := sl } ∧ s.heap.get? b = some { cls := .type "tuple", dict := dd2, data := .seq items2 n2, slots := sl2 } ∧
        (∀ j (h1 : j < items.size) (h2 : j < items2.size), EqAt A.in1 s items[j] items2[j] (e j)) ∧ (∀ j (h1 : j < items.size) (h2 : j < items2.size), (∀ i, i < j → e i = true) → e j = false → RcLt A.in1 s items[j] items2[j] (r j)) ∧
        R (.ok (.ret (.bool (firstLt e r (decide (items.size < items2.size)) (List.range (min items.size items2.size)))))) s) :=
  .of_wp fun prog w A R s h => by
    obtain ⟨hp, g, d, tk, os⟩ := s
    obtain ⟨hl, hb, he, hr, h⟩ := h
    have f2 := AutoSeq1.sub_tuple_tuple
    have hZ : (items.toList.zip items2.toList).length = min items.size items2.size := by simp
    wp_walk using wpAny_loadPart' hl, wpAny_loadPart' hb, wpAny_forIn_list _ (fun rest b s' => b.1 = none ∧ s' = ⟨hp, g, d, tk, os⟩ ∧ ∃ i, (∀ q, q < i → e q = true) ∧ rest = (items.toList.zip items2.toList).drop i ∧
      R (.ok (.ret (.bool (firstLt e r (decide (items.size < items2.size)) ((List.range (min items.size items2.size)).drop i))))) ⟨hp, g, d, tk, os⟩) _
    case turn =>
      rintro ⟨y, x⟩ rest b s' ⟨hb', rfl, i, hi, hz, hR⟩
      have hlt : i < (items.toList.zip items2.toList).length := by
        rcases Nat.lt_or_ge i (items.toList.zip items2.toList).length with h' | h'
        · exact h'
        · rw [List.drop_of_length_le h'] at hz
          cases hz
      have hm : i < min items.size items2.size := hZ ▸ hlt
      have h1 : i < items.size := Nat.lt_of_lt_of_le hm (Nat.min_le_left _ _)
      have h2 : i < items2.size := Nat.lt_of_lt_of_le hm (Nat.min_le_right _ _)
      rw [List.drop_eq_getElem_cons hlt] at hz
      injection hz with hyx hrest
      have hy : y = items[i] := by
        have q := congrArg Prod.fst hyx
        simpa using q
      have hx : x = items2[i] := by
        have q := congrArg Prod.snd hyx
        simpa using q
      subst hy hx
      have hd : (List.range (min items.size items2.size)).drop i = i :: (List.range (min items.size items2.size)).drop (i + 1) := by simp [List.drop_eq_getElem_cons, hm]
      rw [hd] at hR
      refine wpAny_bind (he i h1 h2 prog w _ _ ?_)
      cases hy : e i with
      | true =>
        rw [firstLt_yes hy] at hR
        wp_walk
        refine ⟨rfl, rfl, i + 1, fun q hq => ?_, hrest, hR⟩
        rcases Nat.lt_or_ge q i with z | z
        · exact hi q z
        · have ez : q = i := by omega
          rw [ez]
          exact hy
      | false =>
        rw [firstLt_no hy] at hR
        rw [if_pos (show (!false) = true from rfl)]
        refine wpAny_bind (wpAny_rule (wpAny_bind (hr i h1 h2 hi hy prog w _ _ ?_)))
        wp_walk
        exact ⟨_, rfl, hR⟩
    case fin =>
      rintro ⟨b1, b2⟩ s' ⟨hb', rfl, i, hi, hz, hR⟩
      simp only at hb'
      subst hb'
      have hge : min items.size items2.size ≤ i := by
        rcases Nat.lt_or_ge i (items.toList.zip items2.toList).length with h' | h'
        · rw [List.drop_eq_getElem_cons h'] at hz
          cases hz
        · exact hZ ▸ h'
      rw [List.drop_of_length_le (by simpa using hge)] at hR
      wp_walk
      exact ⟨_, rfl, by simpa [Builtin.Tuple.tupleCompareSizes, firstLt] using hR⟩
    case h =>
      exact ⟨rfl, rfl, 0, fun q hq => absurd hq (Nat.not_lt_zero _), rfl, by simpa using h⟩
theorem rcLt_tup {A : Around} {s : Shared} {l b : Addr} {items items2 : Array Value} {e r : Nat → Bool} (hl : s.heap.IsTuple l items) (hb : s.heap.IsTuple b items2) (hu : A.units < cLine)
    (he : ∀ j (h1 : j < items.size) (h2 : j < items2.size), EqAt A.in1 s items[j] items2[j] (e j)) (hr : ∀ j (h1 : j < items.size) (h2 : j < items2.size), (∀ i, i < j → e i = true) → e j = false → RcLt A.in1 s items[j] items2[j] (r j)) :
    RcLt A s (.ref l) (.ref b) (firstLt e r (decide (items.size < items2.size)) (List.range (min items.size items2.size))) := fun prog w E Q h => by
  obtain ⟨⟨cls, dd, data, sl⟩, ho, hc, n, hd⟩ := id hl
  obtain ⟨⟨cls2, dd2, data2, sl2⟩, ho2, hc2, n2, hd2⟩ := id hb
  simp only at hc hd hc2 hd2
  subst hc hd hc2 hd2
  have nn : Value.bool (firstLt e r (decide (items.size < items2.size)) (List.range (min items.size items2.size))) ≠ Value.notImplemented := fun x => nomatch x
  exact richCompare_meets_room (op := .Lt) ⟨_, ho, rfl⟩ ⟨_, ho2, rfl⟩ F.slot_tuple_lt F.entry_tuple_lt (F.args_tuple_lt_2 _ _) (tup_lt_first l b items items2 n n2 dd dd2 sl sl2 e r)
    ⟨ho, ho2, he, hr, nn, h⟩ hu
end
mutual
theorem rcLt_nd : ∀ (x y : ND) (A : Around) (s : Shared) (a b : Value), NestedIs s.heap x a → NestedIs s.heap y b → okD x y = true → A.units + min x.depth y.depth < cLine → RcLt A s a b (ltD x y)
  | .none, _, _, _, _, _, _, _, h, _ => by simp [okD] at h
  | .num _, .num _, _, _, _, _, _, _, h, _ => by simp [okD] at h
  | .num _, .none, _, _, _, _, _, _, h, _ => by simp [okD] at h
  | .num _, .text _, _, _, _, _, _, _, h, _ => by simp [okD] at h
  | .num _, .tup _, _, _, _, _, _, _, h, _ => by simp [okD] at h
  | .text x, .text y, A, s, _, _, ra, rb, _, _ => by
    cases ra
    cases rb
    intro prog w E Q h
    exact P.lt_str h
  | .text _, .none, _, _, _, _, _, _, h, _ => by simp [okD] at h
  | .text _, .num _, _, _, _, _, _, _, h, _ => by simp [okD] at h
  | .text _, .tup _, _, _, _, _, _, _, h, _ => by simp [okD] at h
  | .tup _, .none, _, _, _, _, _, _, h, _ => by simp [okD] at h
  | .tup _, .num _, _, _, _, _, _, _, h, _ => by simp [okD] at h
  | .tup _, .text _, _, _, _, _, _, _, h, _ => by simp [okD] at h
  | .tup xs, .tup ys, A, s, _, _, ra, rb, h, hu => by
    cases ra with
    | @tup l o vs n _ h1 h2 h3 h4 =>
      cases rb with
      | @tup l' o' vs' n' _ k1 k2 k3 k4 =>
        have n1 : vs.size = xs.length := by simpa using NestedAll.length _ _ h4
        have n2 : vs'.size = ys.length := by simpa using NestedAll.length _ _ k4
        rw [ltD, ← firstLt_ltL xs ys, ← n1, ← n2]
        refine rcLt_tup ⟨_, h1, h2, _, h3⟩ ⟨_, k1, k2, _, k3⟩ (room_here hu) (fun j j1 j2 => ?_) fun j j1 j2 hb hj => ?_
        · have q := eqAt_keys xs ys A.in1 s vs.toList vs'.toList h4 k4 (room_in hu) j (by simpa using j1) (by simpa using j2)
          simpa using q
        · have q := rcLt_nds xs ys A.in1 s vs.toList vs'.toList h4 k4 (room_in hu) j (by simpa using j1) (by simpa using j2) (okL_at (by simpa [okD] using h) (by omega) (by omega) hj hb)
          simpa using q
theorem rcLt_nds : ∀ (xs ys : List ND) (A : Around) (s : Shared) (vs ws : List Value), NestedAll s.heap xs vs → NestedAll s.heap ys ws →
    A.units + min (NestedKey.depthAll xs) (NestedKey.depthAll ys) < cLine → ∀ j (h1 : j < vs.length) (h2 : j < ws.length), okD (xs.getD j .none) (ys.getD j .none) = true → RcLt A s vs[j] ws[j] (rAt xs ys j)
  | [], _, _, _, _, _, ra, _, _, j, h1, _, _ => by cases ra; exact absurd h1 (Nat.not_lt_zero _)
  | _ :: _, [], _, _, _, _, _, rb, _, j, _, h2, _ => by cases rb; exact absurd h2 (Nat.not_lt_zero _)
  | x :: xs, y :: ys, A, s, _, _, ra, rb, hu, j, h1, h2, hj => by
    cases ra with
    | cons r rs =>
      cases rb with
      | cons r' rs' =>
        cases j with
        | zero => exact rcLt_nd x y A s _ _ r r' hj (room_head hu)
        | succ j => exact rcLt_nds xs ys A s _ _ rs rs' (room_tail hu) j (Nat.lt_of_succ_lt_succ h1) (Nat.lt_of_succ_lt_succ h2) hj
end
end TC

namespace TC
open PySem PySem.Spec PyProof.Rows L2 SeqAt PySem.W
section
variable {prog : Program} {w : World} {A : Around} {E : Value → Shared → Prop} {s : Shared}
def Txt1 (xs : List ND) : Prop := ∀ x, xs.head? = some x → ∃ t, x = NestedKey.text t
theorem katlex_nd {b : Bool} {Q : Bool → Shared → Prop} : ∀ (xs ys : List ND) (vs ws : List Value) (i : Nat), NestedAll s.heap xs vs → NestedAll s.heap ys ws → okL xs ys = true →
    A.units + min (NestedKey.depthAll xs) (NestedKey.depthAll ys) < cLine → (i = 0 → b = true → Txt1 xs ∧ Txt1 ys) → Q (ltL xs ys) s → KatLex prog w A b (decide (xs.length < ys.length)) Q (vs.zip ws) i s
  | [], [], _, _, i, ra, rb, _, _, _, h => by
    cases ra
    cases rb
    exact h
  | [], _ :: _, _, _, i, ra, rb, _, _, _, h => by
    cases ra
    cases rb
    exact kat_nil (by simpa [ltL] using h)
  | _ :: _, [], _, _, i, ra, rb, _, _, _, h => by
    cases ra
    cases rb
    exact kat_nil (by simpa [ltL] using h)
  | x :: xs, y :: ys, _, _, i, ra, rb, ok, hu, hf, h => by
    cases ra with
    | @cons _ v _ vs r rs =>
      cases rb with
      | @cons _ v' _ vs' r' rs' =>
        show KatLex prog w A b _ Q ((v, v') :: vs.zip vs') i s
        refine kat_cons (eqAt_key x y A s v v' r r' (room_head hu) prog w _ _ ?_)
        have e2 : decide ((x :: xs).length < (y :: ys).length) = decide (xs.length < ys.length) := by
          simp only [List.length_cons]
          exact decide_eq_decide.mpr (by omega)
        rw [e2]
        refine kat_go (fun e => ?_) (fun e => ?_)
        · rw [okL, e, if_pos rfl] at ok
          rw [ltL, e, if_pos rfl] at h
          exact kat_yes (katlex_nd xs ys vs vs' (i + 1) rs rs' ok (room_tail hu) (fun z => absurd z (Nat.succ_ne_zero i)) h)
        · rw [okL, e, if_neg Bool.false_ne_true] at ok
          rw [ltL, e, if_neg Bool.false_ne_true] at h
          refine kat_no ?_
          by_cases hb : i = 0 ∧ b = true
          · obtain ⟨i0, b1⟩ := hb
            obtain ⟨f1, f2⟩ := hf i0 b1
            obtain ⟨t, rfl⟩ := f1 x rfl
            obtain ⟨u, rfl⟩ := f2 y rfl
            cases r
            cases r'
            have eb : (b && i == 0) = true := by rw [b1, i0]; rfl
            rw [eb]
            exact oneLt_str h
          · have eb : (b && i == 0) = false := by
              cases b with
              | false => rfl
              | true =>
                have hi : ¬ i = 0 := fun z => hb ⟨z, rfl⟩
                simp [hi]
            rw [eb]
            exact kat_one _ _ (rcLt_nd x y A s v v' r r' ok (room_head hu) prog w _ _ h)
mutual
theorem is_keepT {h h' : Heap} (hk : ∀ a o, h.get? a = some o → o.cls = .type "tuple" → h'.get? a = some o) : ∀ (x : ND) (v : Value), NestedIs h x v → NestedIs h' x v
  | .none, _, hx => by cases hx; exact .none
  | .num i, _, hx => by
    cases hx with
    | bool e => exact .bool e
    | int _ t => exact .int _ t
  | .text x, _, hx => by cases hx; exact .text _ _
  | .tup ks, _, hx => by
    cases hx with
    | tup h1 h2 h3 h4 => exact .tup (hk _ _ h1 h2) h2 h3 (all_keepT hk ks _ h4)
theorem all_keepT {h h' : Heap} (hk : ∀ a o, h.get? a = some o → o.cls = .type "tuple" → h'.get? a = some o) : ∀ (xs : List ND) (vs : List Value), NestedAll h xs vs → NestedAll h' xs vs
  | [], _, hx => by cases hx; exact .nil
  | x :: xs, _, hx => by
    cases hx with
    | cons h1 h2 => exact .cons (is_keepT hk x _ h1) (all_keepT hk xs _ h2)
end
/-! ### sorting -/
/-- what the values are, as data (any choice elsewhere) -/
noncomputable def datOf (h : Heap) (v : Value) : ND := by
  classical
  exact if q : ∃ d, NestedIs h d v then q.choose else .none
theorem datOf_eq {h : Heap} {v : Value} {d : ND} (r : NestedIs h d v) : datOf h v = d := by
  unfold datOf
  have q : ∃ d, NestedIs h d v := ⟨d, r⟩
  rw [dif_pos q]
  exact NestedIs.inj _ _ v q.choose_spec r
theorem swo_dat (h : Heap) : SrtO.Swo fun v u => ltD (datOf h v) (datOf h u) :=
  ⟨fun x y q => swoD.asym _ _ q, fun x y z a b => swoD.tr _ _ _ a b⟩
/-- lists of tuples that may be sorted: any two may be compared, the first items of one kind -/
structure Srtb (ds : List ND) : Prop where
  tup : ∀ d ∈ ds, ∃ x r, d = NestedKey.tup (x :: r)
  ok : ∀ d ∈ ds, ∀ e ∈ ds, d ≠ e → okD d e = true
  dep : ∀ d ∈ ds, d.depth ≤ 40
  fst : (∀ d ∈ ds, ∃ t r, d = NestedKey.tup (.text t :: r)) ∨ (∀ d ∈ ds, ∃ t r, d = NestedKey.tup (.tup t :: r))
theorem okD_tup {xs ys : List ND} : okD (.tup xs) (.tup ys) = okL xs ys := by rw [okD]
theorem okL_refl : ∀ xs : List ND, okL xs xs = true
  | [] => rfl
  | x :: xs => by rw [okL_same]; exact okL_refl xs
theorem Srtb.okL {ds : List ND} (S : Srtb ds) {xs ys : List ND} (h1 : NestedKey.tup xs ∈ ds) (h2 : NestedKey.tup ys ∈ ds) : okL xs ys = true := by
  by_cases e : xs = ys
  · rw [e]; exact okL_refl ys
  · have q := S.ok _ h1 _ h2 (fun z => e (by injection z))
    rw [okD_tup] at q
    exact q
theorem cmp_nd {vs : List Value} {ds : List ND} {b : Bool} (S : Srtb ds) (hv : ∀ v ∈ vs, ∃ d ∈ ds, NestedIs s.heap d v) (hu : A.units + 41 < cLine) (hb : b = true → ∀ d ∈ ds, ∃ t r, d = NestedKey.tup (.text t :: r)) :
    SrtO.Cmp prog w A s (tuples' b) (fun p => p.1 ∈ vs) (SrtO.lt2 fun v u => ltD (datOf s.heap v) (datOf s.heap u)) := by
  intro p q hm hm'
  obtain ⟨d, hd, rd⟩ := hv _ hm
  obtain ⟨e, he, re⟩ := hv _ hm'
  obtain ⟨x, xs, rfl⟩ := S.tup d hd
  obtain ⟨y, ys, rfl⟩ := S.tup e he
  have hd8 := S.dep _ hd
  have ok := S.okL hd he
  show wpAny (model prog w) A (keyLt' (tuples' b) p.1 q.1) (fun r s' => s' = s ∧ r = ltD (datOf s.heap p.1) (datOf s.heap q.1)) (fun _ _ => False) s
  rw [datOf_eq rd, datOf_eq re]
  generalize p.1 = v at rd
  generalize q.1 = u at re
  cases rd with
  | @tup a o va n _ h1 h2 h3 h4 =>
    cases re with
    | @tup a' o' va' n' _ k1 k2 k3 k4 =>
      refine kat_lt h1 h3 k1 k3 ?_
      have n1 : va.size = (x :: xs).length := by simpa using NestedAll.length _ _ h4
      have n2 : va'.size = (y :: ys).length := by simpa using NestedAll.length _ _ k4
      rw [n1, n2]
      simp only [NestedKey.depth] at hd8
      refine katlex_nd _ _ _ _ 0 h4 k4 ok (by omega) (fun _ eb => ⟨fun z hz => ?_, fun z hz => ?_⟩) ⟨rfl, by rw [ltD]⟩
      · obtain ⟨t, r, e⟩ := hb eb _ hd
        injection e with e
        injection e with e _
        injection hz with hz
        exact ⟨t, by rw [← hz, e]⟩
      · obtain ⟨t, r, e⟩ := hb eb _ he
        injection e with e
        injection e with e _
        injection hz with hz
        exact ⟨t, by rw [← hz, e]⟩
theorem kattups_of {h : Heap} {ds : List ND} (S : ∀ d ∈ ds, ∃ x r, d = NestedKey.tup (x :: r)) : ∀ {vs : List Value}, (∀ v ∈ vs, ∃ d ∈ ds, NestedIs h d v) →
    ∃ fs, KatTups h vs fs ∧ fs.length = vs.length ∧ ∀ f ∈ fs, ∃ x r, NestedKey.tup (x :: r) ∈ ds ∧ NestedIs h x f
  | [], _ => ⟨[], KatTups.nil, rfl, fun f hf => by cases hf⟩
  | v :: vs, hv => by
    obtain ⟨fs, h1, h2, h3⟩ := kattups_of S (vs := vs) fun u hu => hv u (List.mem_cons_of_mem _ hu)
    obtain ⟨d, hd, rd⟩ := hv v List.mem_cons_self
    obtain ⟨x, r, rfl⟩ := S d hd
    cases rd with
    | @tup a o va n _ k1 k2 k3 k4 =>
      generalize hva : va.toList = vl at k4
      cases k4 with
      | @cons _ f _ rest r1 r2 =>
        refine ⟨f :: fs, KatTups.cons k1 k2 k3 ?_ h1, by rw [List.length_cons, List.length_cons, h2], fun z hz => ?_⟩
        · rw [← Array.getElem?_toList, hva] <;> rfl
        · rcases List.mem_cons.mp hz with e | hz
          · rw [e]; exact ⟨x, r, hd, r1⟩
          · exact h3 z hz
theorem kind_nd {vs : List Value} {ds : List ND} (S : Srtb ds) (h0 : 0 < vs.length) (hv : ∀ v ∈ vs, ∃ d ∈ ds, NestedIs s.heap d v) :
    ∃ b : Bool, (b = true → ∀ d ∈ ds, ∃ t r, d = NestedKey.tup (.text t :: r)) ∧ ∀ (Q : SortKind → Shared → Prop) (E : Value → Shared → Prop), Q (tuples' b) s → wpAny (model prog w) A (keyKind' vs.toArray) Q E s := by
  obtain ⟨fs, h1, h2, h3⟩ := kattups_of S.tup hv
  rcases S.fst with hf | hf
  · refine ⟨true, fun _ => hf, fun Q E q => ?_⟩
    have q' : Q (tuples' (Value.type "str" != Value.type "tuple")) s := by
      rw [show (Value.type "str" != Value.type "tuple") = true from by first | decide +kernel | rfl]
      exact q
    refine kat_kind (T := .type "str") h1 (by omega) (fun f hm => ?_) (by rfl) q'
    obtain ⟨x, r, hx, rx⟩ := h3 f hm
    obtain ⟨t, r', e⟩ := hf _ hx
    injection e with e
    injection e with e _
    subst e
    cases rx
    exact Looks.now
  · refine ⟨false, fun z => Bool.noConfusion z, fun Q E q => ?_⟩
    have q' : Q (tuples' (Value.type "tuple" != Value.type "tuple")) s := by
      rw [show (Value.type "tuple" != Value.type "tuple") = false from by first | decide +kernel | rfl]
      exact q
    refine kat_kind (T := .type "tuple") h1 (by omega) (fun f hm => ?_) (by rfl) q'
    obtain ⟨x, r, hx, rx⟩ := h3 f hm
    obtain ⟨t, r', e⟩ := hf _ hx
    injection e with e
    injection e with e _
    subst e
    cases rx with
    | @tup a o _ _ _ k1 k2 k3 k4 =>
      have q : Looks (model prog w) s.heap (typeOf (.ref a)) o.cls := (Looks.ld k1).andThen .now
      rw [k2] at q
      exact q
theorem sortable_nd {a : Addr} {vs : List Value} {ds : List ND} (S : Srtb ds) (h0 : 0 < vs.length) (hv : ∀ v ∈ vs, ∃ d ∈ ds, NestedIs s.heap d v) (hu : A.units + 41 < cLine) (ha : ∀ o, s.heap.get? a = some o → o.cls = .type "list") :
    SrtO.SortableO prog w A s a vs fun v u => ltD (datOf s.heap v) (datOf s.heap u) := by
  intro h' keep
  have kt : ∀ b o, s.heap.get? b = some o → o.cls = .type "tuple" → h'.get? b = some o := fun b o e c => keep b o (fun z => by
    subst z
    have q := ha o e
    rw [c] at q
    injection q with q
    exact absurd q (by decide)) e
  have hv' : ∀ v ∈ vs, ∃ d ∈ ds, NestedIs h' d v := fun v hm => by
    obtain ⟨d, hd, r⟩ := hv v hm
    exact ⟨d, hd, is_keepT kt d v r⟩
  have e : (fun v u => ltD (datOf s.heap v) (datOf s.heap u)) = (fun v u => ltD (datOf s.heap v) (datOf s.heap u)) := rfl
  obtain ⟨b, hb, hk⟩ := kind_nd (prog := prog) (w := w) (A := A) (s := { s with heap := h' }) S h0 hv'
  refine ⟨tuples' b, hk, fun p q hm hm' => ?_⟩
  have c := cmp_nd (prog := prog) (w := w) (A := A) (s := { s with heap := h' }) S hv' hu hb p q hm hm'
  have same : ∀ v ∈ vs, datOf h' v = datOf s.heap v := fun v hm => by
    obtain ⟨d, hd, r⟩ := hv v hm
    rw [datOf_eq r, datOf_eq (is_keepT kt d v r)]
  have e1 : SrtO.lt2 (fun v u => ltD (datOf h' v) (datOf h' u)) p q = SrtO.lt2 (fun v u => ltD (datOf s.heap v) (datOf s.heap u)) p q := by
    show ltD (datOf h' p.1) (datOf h' q.1) = ltD (datOf s.heap p.1) (datOf s.heap q.1)
    rw [same _ hm, same _ hm']
  rw [← e1]
  exact c
/-- sorted(xs) of nested data: the new list d holds a rearrangement, in order, equal ones as they stood -/
theorem sorted_nd {l : Addr} {vs : List Value} {ds : List ND} {Q : Value → Shared → Prop} (S : Srtb ds) (hl : s.heap.IsList l vs.toArray) (hz : vs.length ≤ sizeLine) (hv : ∀ v ∈ vs, ∃ d ∈ ds, NestedIs s.heap d v) (hu : A.units + 43 < cLine)
    (h : ∀ (h' : Heap) (d : Addr) (out : List Value), out.Perm vs → out.Pairwise (fun v u => ltD (datOf s.heap u) (datOf s.heap v) = false) → (∀ b o, s.heap.get? b = some o → h'.get? b = some o) → s.heap.objs.size ≤ d →
      (∃ n, h'.get? d = some (seqObj "list" out.toArray n)) → Q (.ref d) { s with heap := h' }) :
    wpAny (model prog w) A (call (.builtin "sorted") [.ref l]) Q E s := by
  refine SrtO.sorted_ord (swo_dat s.heap) hl hz (fun h2 h₁ a ha kk => ?_) fun out hs hb => ?_
  · have hv1 : ∀ v ∈ vs, ∃ d ∈ ds, NestedIs h₁ d v := fun v hm => by
      obtain ⟨d, hd, r⟩ := hv v hm
      exact ⟨d, hd, NestedIs.at (fun b o _ _ e _ => (kk b o e).2) d v r⟩
    have q := sortable_nd (prog := prog) (w := w) (A := A.in1.in1) (s := { s with heap := h₁ }) (a := a) S (by omega) hv1 (by show A.units + 1 + 1 + 41 < cLine; omega) fun o e => by
      have e' : some o = some (seqObj "list" vs.toArray 0) := e.symm.trans ha
      cases e'
      rfl
    intro h' keep
    obtain ⟨κ, c1, c2⟩ := q h' keep
    refine ⟨κ, c1, fun p r hp hr => ?_⟩
    have c3 := c2 p r hp hr
    have same : ∀ v ∈ vs, datOf h₁ v = datOf s.heap v := fun v hm => by
      obtain ⟨d, hd, rr⟩ := hv v hm
      rw [datOf_eq rr, datOf_eq (NestedIs.at (fun b o _ _ e _ => (kk b o e).2) d v rr)]
    have e1 : SrtO.lt2 (fun v u => ltD (datOf h₁ v) (datOf h₁ u)) p r = SrtO.lt2 (fun v u => ltD (datOf s.heap v) (datOf s.heap u)) p r := by
      show ltD (datOf h₁ p.1) (datOf h₁ r.1) = ltD (datOf s.heap p.1) (datOf s.heap r.1)
      rw [same _ hp, same _ hr]
    rw [← e1]
    exact c3
  · exact h _ _ out hb.perm hs (fun b o e => sortedAll_old e) (Nat.le_succ _) (sortedAll_at s.heap vs out.toArray)
end
end TC

/-! sets of nested data (tuples): made of a tuple, and sorted -/
namespace TC
open PySem PySem.Spec PyProof.Rows L2
theorem all_mem {h : Heap} : ∀ {ks : List ND} {vs : List Value}, NestedAll h ks vs → ∀ v ∈ vs, ∃ d ∈ ks, NestedIs h d v
  | [], _, r, v, hv => by
    cases r
    cases hv
  | k :: ks, _, r, v, hv => by
    cases r with
    | cons r1 r2 =>
      rcases List.mem_cons.mp hv with e | hv
      · exact ⟨k, List.mem_cons_self, by rw [e]; exact r1⟩
      · obtain ⟨d, hd, q⟩ := all_mem r2 v hv
        exact ⟨d, List.mem_cons_of_mem _ hd, q⟩
theorem depth_mem : ∀ {ks : List ND} {d : ND}, d ∈ ks → d.depth ≤ NestedKey.depthAll ks
  | [], _, h => by cases h
  | k :: ks, d, h => by
    simp only [NestedKey.depthAll]
    rcases List.mem_cons.mp h with e | h
    · rw [e]; omega
    · have q := depth_mem h
      omega
section
variable {P : Program} {w : World} {A : Around} {E : Value → Shared → Prop} {s : Shared}
/-! ### small questions -/
theorem hashBy_nd : ∀ (n : Nat) (k : ND) (v : Value) (Q : Bool → Shared → Prop), NestedIs s.heap k v → (∀ b, Q b s) → wpAny (model P w) A (hashByValue n v) Q E s := by
  intro n
  induction n with
  | zero =>
    intro k v Q r h
    cases r <;> exact wpAny_pure (h _)
  | succ n ih =>
    intro k v Q r h
    cases r with
    | none => exact wpAny_pure (h _)
    | bool e => exact wpAny_pure (h _)
    | int i t => exact wpAny_pure (h _)
    | text x t => exact wpAny_pure (h _)
    | @tup a o vs m ks hg hc hd hk =>
      have hT : s.TypeIs (.ref a) "tuple" := ⟨o, hg, hc⟩
      unfold hashByValue
      refine wpAny_bind (wpAny_specialOf hT F.slot_tuple_hash.lookup ?_)
      show wpAny _ _ (seqItems? (.ref a) >>= _) _ _ s
      refine wpAny_bind (wpAny_seqItems hg hd ?_)
      refine wpAny_bind ?_
      show wpAny _ _ (forIn vs _ _) _ _ s
      rw [← Array.forIn_toList]
      refine wpAny_forIn_list _ (fun rest r t => r.1 = none ∧ t = s ∧ ∀ v ∈ rest, ∃ d ∈ ks, NestedIs s.heap d v) _ ?_ ?_ _ _ ⟨rfl, rfl, all_mem hk⟩
      · rintro v rest r t ⟨hr, rfl, hall⟩
        obtain ⟨d, hd, rd⟩ := hall v List.mem_cons_self
        refine wpAny_bind (ih d v _ rd fun b => ?_)
        cases b with
        | true => exact wpAny_pure ⟨rfl, rfl, fun u hu => hall u (List.mem_cons_of_mem _ hu)⟩
        | false => exact wpAny_pure (wpAny_pure (h false))
      · rintro ⟨r1, r2⟩ t ⟨hr, rfl, _⟩
        simp only at hr
        subst hr
        exact wpAny_pure (h true)
theorem ofA_nd : ∀ (n : Nat) (k : ND) (v : Value) (Q : Bool → Shared → Prop), NestedIs s.heap k v → k.depth ≤ n → Q false s → wpAny (model P w) A (ofAClassStatement n v) Q E s := by
  intro n
  induction n with
  | zero =>
    intro k v Q r hd h
    cases r with
    | none => exact wpAny_pure h
    | bool e => exact wpAny_pure h
    | int i t => exact wpAny_pure h
    | text x t => exact wpAny_pure h
    | tup _ _ _ _ => simp [NestedKey.depth] at hd
  | succ n ih =>
    intro k v Q r hdp h
    cases r with
    | none => exact wpAny_pure h
    | bool e => exact wpAny_pure h
    | int i t => exact wpAny_pure h
    | text x t => exact wpAny_pure h
    | @tup a o vs m ks hg hc hd hk =>
      have hT : s.TypeIs (.ref a) "tuple" := ⟨o, hg, hc⟩
      simp only [NestedKey.depth] at hdp
      unfold ofAClassStatement
      refine wpAny_bind (wpAny_typeOf hT ?_)
      dsimp only
      have e : (("tuple" : String) == "tuple") = true := by decide
      simp only [e, if_true, Bool.not_true, Bool.false_eq_true, if_false]
      try refine wpAny_bind (wpAny_pure ?_)
      try simp only [Bool.not_true, Bool.false_eq_true, if_false]
      show wpAny _ _ (seqItems? (.ref a) >>= _) _ _ s
      refine wpAny_bind (wpAny_seqItems hg hd ?_)
      dsimp only
      refine wpAny_bind ?_
      show wpAny _ _ (forIn vs _ _) _ _ s
      rw [← Array.forIn_toList]
      refine wpAny_forIn_list _ (fun rest r t => r.1 = none ∧ t = s ∧ ∀ v ∈ rest, ∃ d ∈ ks, NestedIs s.heap d v) _ ?_ ?_ _ _ ⟨rfl, rfl, all_mem hk⟩
      · rintro v rest r t ⟨hr, rfl, hall⟩
        obtain ⟨d, hd, rd⟩ := hall v List.mem_cons_self
        have q := depth_mem hd
        refine wpAny_bind (ih d v _ rd (by omega) ?_)
        exact wpAny_pure ⟨rfl, rfl, fun u hu => hall u (List.mem_cons_of_mem _ hu)⟩
      · rintro ⟨r1, r2⟩ t ⟨hr, rfl, _⟩
        simp only at hr
        subst hr
        exact wpAny_pure h
/-- a search among tuples that are not too deep (or the very ones) shows nothing -/
theorem seen_nd {k : ND} {b : Addr} {Q : Bool → Shared → Prop} (hk : NestedIs s.heap k (.ref b)) {ys : List Value} (hy : ∀ y ∈ ys, ∃ k' c, y = Value.ref c ∧ NestedIs s.heap k' (.ref c) ∧ (b = c ∨ (k.depth ≤ 8 ∧ k'.depth ≤ 8))) (h : Q false s) :
    wpAny (model P w) A (searchCouldBeSeen (.ref b) ys) Q E s := by
  unfold searchCouldBeSeen
  refine wpAny_bind ?_
  refine wpAny_forIn_list _ (fun rest r t => r.1 = none ∧ t = s ∧ ∀ y ∈ rest, ∃ k' c, y = Value.ref c ∧ NestedIs s.heap k' (.ref c) ∧ (b = c ∨ (k.depth ≤ 8 ∧ k'.depth ≤ 8))) _ ?_ ?_ _ _ ⟨rfl, rfl, hy⟩
  · rintro v rest r t ⟨hr, rfl, hall⟩
    obtain ⟨k', c, rfl, hc, hd⟩ := hall v List.mem_cons_self
    have more : ∀ y ∈ rest, ∃ k' c, y = Value.ref c ∧ NestedIs t.heap k' (.ref c) ∧ (b = c ∨ (k.depth ≤ 8 ∧ k'.depth ≤ 8)) := fun u hu => hall u (List.mem_cons_of_mem _ hu)
    dsimp only
    by_cases hv : (b == c || (carriedByValue (.ref b) && carriedByValue (.ref c))) = true
    · refine wp_if_pos hv ?_
      exact wpAny_pure ⟨rfl, rfl, more⟩
    · refine wp_if_neg hv ?_
      have hn : ¬ b = c := fun e => hv (by rw [e]; simp)
      obtain ⟨d1, d2⟩ := hd.resolve_left hn
      refine wpAny_bind (quiet_key k _ 8 t hk d1 _ _ _ ?_)
      simp only [Bool.not_true, Bool.false_eq_true, if_false]
      refine wpAny_bind (quiet_key k' _ 8 t hc d2 _ _ _ ?_)
      simp only [Bool.not_true, Bool.false_eq_true, if_false]
      refine wpAny_bind (ofA_nd 8 k _ _ hk d1 ?_)
      simp only [Bool.false_eq_true, if_false]
      refine wpAny_bind (ofA_nd 8 k' _ _ hc d2 ?_)
      simp only [Bool.false_eq_true, if_false]
      exact wpAny_pure ⟨rfl, rfl, more⟩
  · rintro ⟨r1, r2⟩ t ⟨hr, rfl, _⟩
    simp only at hr
    subst hr
    exact wpAny_pure h
/-! ### the set -/
abbrev hN (w : World) (k : ND) : Int := k.hash w
def rowsN (w : World) (L : List (Addr × ND)) : List (Int × Value) := L.map fun p => (hN w p.2, Value.ref p.1)
structure SetN (w : World) (h : Heap) (a : Addr) (L : List (Addr × ND)) (es : Array (Int × Value)) (ep : Nat) (t : SetTable) : Prop where
  ob : ∃ o, h.get? a = some o ∧ o.ExactSet ∧ o.data = .set es ep t
  rows : es.toList = rowsN w L
  tab : TabOk t (L.map fun p => hN w p.2)
  nd : (L.map (·.2)).Nodup
  is : ∀ p ∈ L, NestedIs h p.2 (.ref p.1)
  led : w.params.followText "set-order" = true ∨ t.led = true
  room : L.length * 5 < t.mask * 3
  few : L.length < 64
variable {a : Addr} {L : List (Addr × ND)} {es : Array (Int × Value)} {ep : Nat} {t : SetTable}
theorem len_rows (L : List (Addr × ND)) : (rowsN w L).length = L.length := by
  unfold rowsN
  exact List.length_map _
theorem SetN.size {h : Heap} (R : SetN w h a L es ep t) : es.size = L.length := by
  have q := congrArg List.length R.rows
  rw [len_rows, Array.length_toList] at q
  exact q
theorem SetN.fits {h : Heap} (R : SetN w h a L es ep t) : t.fits es.size = true := by
  have h1 := R.tab.sz
  rw [List.length_map] at h1
  have h2 := R.size
  have h3 := R.room
  unfold SetTable.fits SetTable.fill
  rw [R.tab.dm, Bool.and_eq_true, beq_iff_eq, decide_eq_true_eq]
  show t.place.size = es.size ∧ t.place.size + 0 ≤ t.mask
  omega
theorem SetN.entry {h : Heap} (R : SetN w h a L es ep t) {i : Nat} {p : Addr × ND} (q : L[i]? = some p) : es[i]? = some (hN w p.2, Value.ref p.1) := by
  rw [← Array.getElem?_toList, R.rows]
  unfold rowsN
  rw [List.getElem?_map, q] <;> rfl
theorem SetN.gw {h : Heap} (R : SetN w h a L es ep t) : ¬ t.gaveWay = true := by
  unfold SetTable.gaveWay
  rw [mask_odd R.tab.mok]
  decide
/-- the probe at the c-th step of the way of hash h -/
abbrev stepP (m : Nat) (h : Int) (c : Nat) : SetTable.Probe := nth m (runAt m (SetTable.bits h % (m + 1)) (SetTable.bits h)) c
theorem stepP_none (m : Nat) (h : Int) (c : Nat) : (stepP m h c).dummy = none := by
  have key : ∀ (n : Nat) (p : SetTable.Probe), p.dummy = none → (nth m p n).dummy = none := by
    intro n
    induction n with
    | zero => intro p q; exact q
    | succ n ih =>
      intro p q
      refine ih (adv m p) ?_
      unfold adv
      split <;> exact q
  exact key c _ rfl
theorem stepP_add (m : Nat) (h : Int) (c q : Nat) : nth m (stepP m h c) q = stepP m h (c + q) := (nth_add m c _ q).symm
/-- the search, from the c-th step on -/
theorem searchN (R : SetN w s.heap a L es ep t) {x : Addr} {k : ND} (hx : NestedIs s.heap k (.ref x)) (hu : A.units + 60 < cLine) (hdk : k.depth ≤ 50) (hq : ∀ p ∈ L, x = p.1 ∨ (k.depth ≤ 8 ∧ p.2.depth ≤ 8))
    {K : Nat} (hKf : K < 10 * SetTable.turns t.mask) (hK : way t.mask (hN w k) K ∉ t.place.toList) (hKb : ∀ c, c < K → way t.mask (hN w k) c ∈ t.place.toList) {Q : SetFound → Shared → Prop}
    (hin : k ∈ L.map (·.2) → Q (.there none) s) (hout : k ∉ L.map (·.2) → Q (.free (way t.mask (hN w k) K) false) s) :
    ∀ (f c : Nat) (stand : Option SetTable.Probe), stand.getD (t.probeStart (hN w k)) = stepP t.mask (hN w k) c → c ≤ K → K - c < f →
      (∀ (i : Nat) p, L[i]? = some p → p.2 = k → ∃ c', c ≤ c' ∧ c' < K ∧ t.place.toList[i]? = some (way t.mask (hN w k) c')) →
      wpAny (model P w) A (setSearchFrom a (.ref x) (hN w k) true f stand) Q E s := by
  intro f
  induction f with
  | zero => intro c stand _ _ hf _; exact absurd hf (Nat.not_lt_zero _)
  | succ f ih =>
    intro c stand hst hc hf hre
    obtain ⟨o, ho, hex, hd⟩ := R.ob
    rw [setSearchFrom_succ]
    refine wpAny_bind (wpAny_setState_of ho hd R.fits ?_)
    dsimp only
    refine wp_if_neg R.gw ?_
    try refine wpAny_bind (wpAny_pure ?_)
    have e1 : ∀ q, (nth t.mask (stepP t.mask (hN w k) c) q).j = way t.mask (hN w k) (c + q) := fun q => congrArg SetTable.Probe.j (stepP_add _ _ c q)
    have eK : c + (K - c) = K := by omega
    have spec := go_spec t R.tab.ris R.tab.dm (fun i => (es[i]?.map (·.1)).getD 0) (hN w k) (10 * SetTable.turns t.mask) (K - c) _ (stepP_none t.mask (hN w k) c) (by omega)
      (fun q hq => by rw [e1]; exact hKb (c + q) (by omega)) (by rw [e1, eK]; exact hK)
    have hashAt : ∀ (i : Nat) p, L[i]? = some p → (fun i => (es[i]?.map (·.1)).getD 0) i = hN w p.2 := fun i p hp => by
      show (es[i]?.map (·.1)).getD 0 = _
      rw [R.entry hp] <;> rfl
    rcases spec with ⟨q, i, hqK, hi, hh, hno, hpr⟩ | ⟨hno, hpr⟩
    · have hpr' : t.probe (fun i => (es[i]?.map (·.1)).getD 0) (hN w k) (stand.getD (t.probeStart (hN w k))) = some (.candidate (way t.mask (hN w k) (c + q)) i (stepP t.mask (hN w k) (c + (q + 1)))) := by
        rw [hst, ← e1, ← stepP_add]
        exact hpr
      rw [hpr']
      dsimp only
      rw [e1] at hi
      have hil : i < L.length := by
        have h1 : i < t.place.toList.length := (List.getElem?_eq_some_iff.mp hi).1
        have h2 := R.tab.sz
        rw [List.length_map] at h2
        rw [Array.length_toList] at h1
        omega
      obtain ⟨p, hp⟩ : ∃ p, L[i]? = some p := ⟨_, List.getElem?_eq_getElem hil⟩
      have hmem : p ∈ L := List.mem_of_getElem? hp
      have hpt := R.is p hmem
      have go : wpAny (model P w) A (searchRest a (.ref x) (hN w k) true f es t (way t.mask (hN w k) (c + q)) i (stepP t.mask (hN w k) (c + (q + 1)))) Q E s := by
        unfold searchRest
        rw [R.entry hp]
        dsimp only
        refine wpAny_bind (wpAny_holding (eqAt_key p.2 k A s _ _ hpt hx (by omega) P w _ _ ?_))
        refine wpAny_bind (wpAny_setState_of ho hd R.fits ?_)
        dsimp only
        by_cases hkk : p.2 = k
        · have eb : NestedKey.beq p.2 k = true := by rw [hkk]; exact NestedKey.beq_self k
          refine wp_if_pos (by rw [eb]; rfl) ?_
          exact wpAny_pure (hin (List.mem_map.mpr ⟨p, hmem, hkk⟩))
        · have eb : NestedKey.beq p.2 k = false := beq_no hkk
          refine wp_if_neg (by rw [eb]; decide) ?_
          try refine wpAny_bind (wpAny_pure ?_)
          rw [sameMem]
          dsimp only
          have hsl : t.slot (way t.mask (hN w k) (c + q)) = .live i := slot_live R.tab.ris hi
          simp only [if_true, hsl, R.entry hp]
          refine wpAny_bind (wpAny_isSame_ref_self (wpAny_bind (wpAny_pure ?_)))
          simp only [if_true]
          refine wp_if_neg (by rw [eb]; decide) ?_
          refine ih (c + (q + 1)) _ rfl (by omega) (by omega) fun i0 p0 h0 hk0 => ?_
          obtain ⟨c', a1, a2, a3⟩ := hre i0 p0 h0 hk0
          refine ⟨c', ?_, a2, a3⟩
          rcases Nat.lt_trichotomy c' (c + q) with z | z | z
          · exfalso
            refine hno (c' - c) i0 (by omega) (by rw [e1, show c + (c' - c) = c' by omega]; exact a3) ?_
            exact (hashAt i0 p0 h0).trans (congrArg (hN w) hk0)
          · exfalso
            rw [z] at a3
            have s0 := slot_live R.tab.ris a3
            rw [hsl] at s0
            injection s0 with s0
            rw [← s0, hp] at h0
            exact hkk ((congrArg Prod.snd (Option.some.inj h0)).trans hk0)
          · omega
      by_cases hl : t.led = true
      · refine wp_if_neg (by simp [hl]) ?_
        try refine wpAny_bind (wpAny_pure ?_)
        exact go
      · refine wp_if_pos (by simp [hl]) ?_
        refine wpAny_bind (seen_nd hx (fun y hy => ?_) ?_)
        · obtain ⟨e, he, ee⟩ := List.mem_map.mp hy
          have he1 : e ∈ es ∧ e.1 = hN w k := by simpa using he
          have he2 : e ∈ es.toList := by simpa using he1.1
          rw [R.rows] at he2
          obtain ⟨p2, hp2, e2⟩ := List.mem_map.mp he2
          refine ⟨p2.2, p2.1, ?_, R.is p2 hp2, hq p2 hp2⟩
          rw [← ee, ← e2]
        · refine wp_if_neg (by decide) ?_
          try refine wpAny_bind (wpAny_pure ?_)
          exact go
    · have hpr' : t.probe (fun i => (es[i]?.map (·.1)).getD 0) (hN w k) (stand.getD (t.probeStart (hN w k))) = some (.empty (way t.mask (hN w k) K) none) := by
        have e2 : way t.mask (hN w k) K = (nth t.mask (stepP t.mask (hN w k) c) (K - c)).j := by rw [e1, eK]
        rw [hst, e2]
        exact hpr
      rw [hpr']
      dsimp only
      refine wpAny_pure (hout fun hm => ?_)
      obtain ⟨p0, h0, hk0⟩ := List.mem_map.mp hm
      obtain ⟨i0, hi0, e0⟩ := List.getElem_of_mem h0
      have h00 : L[i0]? = some p0 := by rw [List.getElem?_eq_getElem hi0, e0]
      obtain ⟨c', a1, a2, a3⟩ := hre i0 p0 h00 hk0
      refine hno (c' - c) i0 (by omega) (by rw [e1, show c + (c' - c) = c' by omega]; exact a3) ?_
      exact (hashAt i0 p0 h00).trans (congrArg (hN w) hk0)
theorem searchN_at (R : SetN w s.heap a L es ep t) {x : Addr} {k : ND} (hx : NestedIs s.heap k (.ref x)) (hu : A.units + 60 < cLine) (hdk : k.depth ≤ 50) (hq : ∀ p ∈ L, x = p.1 ∨ (k.depth ≤ 8 ∧ p.2.depth ≤ 8)) {Q : SetFound → Shared → Prop}
    (hin : k ∈ L.map (·.2) → Q (.there none) s)
    (hout : ∀ K, k ∉ L.map (·.2) → way t.mask (hN w k) K ∉ t.place.toList → (∀ c, c < K → way t.mask (hN w k) c ∈ t.place.toList) → Q (.free (way t.mask (hN w k) K) false) s) :
    wpAny (model P w) A (setSearch a (.ref x) (hN w k) true) Q E s := by
  have hroom := R.room
  obtain ⟨K, hKf, hK, hKb⟩ := R.tab.first (by rw [List.length_map]; omega) (hN w k)
  have hbig : K < 100000 := by
    have q : 10 * SetTable.turns t.mask ≤ 1420 := by
      unfold SetTable.turns
      rcases R.tab.mok with e | e | e <;> omega
    omega
  unfold setSearch
  refine searchN R hx hu hdk hq hKf hK hKb hin (fun hn => hout K hn hK hKb) 100000 0 none rfl (Nat.zero_le _) (by omega) fun i p hp hk => ?_
  have hi : (L.map fun p => hN w p.2)[i]? = some (hN w k) := by rw [List.getElem?_map, hp, ← hk] <;> rfl
  have hil : i < t.place.toList.length := by
    have h1 : i < L.length := (List.getElem?_eq_some_iff.mp hp).1
    have h2 := R.tab.sz
    rw [List.length_map] at h2
    rw [Array.length_toList]
    omega
  have hj := List.getElem?_eq_getElem hil
  obtain ⟨c, hc, e⟩ := R.tab.before hK hi hj
  exact ⟨c, Nat.zero_le _, hc, by rw [hj, e]⟩
end
end TC

namespace TC
open PySem PySem.Spec PyProof.Rows L2
section
variable {P : Program} {w : World} {A : Around} {E : Value → Shared → Prop} {s : Shared}
theorem is_but {h h' : Heap} {k : ND} {v : Value} {a : Addr} {o : Obj} (r : NestedIs h k v) (ho : h.get? a = some o) (hc : o.cls = .type "set") (hs : Heap.SameBut a h h') : NestedIs h' k v :=
  is_keepT (fun b u e c => (hs.2 b fun z => by
    subst z
    rw [ho] at e
    cases e
    rw [hc] at c
    injection c with c
    exact absurd c (by decide)).trans e) k v r
theorem rowsN_put (L : List (Addr × ND)) (p : Nat) (x : Addr) (k : ND) : rowsN w (L.take p ++ (x, k) :: L.drop p) = (rowsN w L).take p ++ (hN w k, Value.ref x) :: (rowsN w L).drop p := by
  unfold rowsN
  rw [List.map_append, List.map_cons, List.map_take, List.map_drop]
theorem pick_all {α : Type} (L : List α) : (List.range L.length).filterMap (fun i => L[i]?) = L := by
  have key : ∀ n, n ≤ L.length → (List.range n).filterMap (fun i => L[i]?) = L.take n := by
    intro n
    induction n with
    | zero => intro _; rfl
    | succ n ih =>
      intro hn
      have hlt : n < L.length := hn
      rw [List.range_succ, List.filterMap_append, ih (Nat.le_of_lt hlt), List.take_succ, List.getElem?_eq_getElem hlt]
      rw [List.filterMap_cons_some (List.getElem?_eq_getElem hlt)] <;> rfl
  rw [key L.length (Nat.le_refl _), List.take_length]
theorem order_rowsN (L : List (Addr × ND)) (es : Array (Int × Value)) (order : Array Nat) (hr : es.toList = rowsN w L) (hp : order.toList.Perm (List.range L.length)) :
    ∃ L2, (order.filterMap (es[·]?)).toList = rowsN w L2 ∧ L2.Perm L ∧ (L2.map fun p => hN w p.2) = order.toList.map fun i => (es.map (·.1)).getD i 0 := by
  have hsz : es.size = L.length := by
    have q := congrArg List.length hr
    rw [len_rows, Array.length_toList] at q
    exact q
  have ent : ∀ i (h : i < L.length), es[i]? = some (hN w (L[i]).2, Value.ref (L[i]).1) := fun i h => by
    rw [← Array.getElem?_toList, hr]
    unfold rowsN
    rw [List.getElem?_map, List.getElem?_eq_getElem h] <;> rfl
  have key : ∀ l : List Nat, (∀ i ∈ l, i < L.length) → ∃ L2 : List (Addr × ND), l.filterMap (fun i => es[i]?) = rowsN w L2 ∧ L2 = l.filterMap (fun i => L[i]?) ∧ (L2.map fun p => hN w p.2) = l.map fun i => (es.map (·.1)).getD i 0 := by
    intro l
    induction l with
    | nil => intro _; exact ⟨[], rfl, rfl, rfl⟩
    | cons i l ih =>
      intro hl
      have hi := hl i List.mem_cons_self
      obtain ⟨L2, e1, e2, e3⟩ := ih fun j hj => hl j (List.mem_cons_of_mem _ hj)
      have e5 : (es.map (·.1))[i]? = some (hN w (L[i]).2) := by rw [Array.getElem?_map, ent i hi] <;> rfl
      refine ⟨L[i] :: L2, ?_, ?_, ?_⟩
      · rw [List.filterMap_cons_some (ent i hi), e1] <;> rfl
      · rw [List.filterMap_cons_some (List.getElem?_eq_getElem hi), e2]
      · rw [List.map_cons, List.map_cons, e3]
        have e4 : (es.map (·.1)).getD i 0 = hN w (L[i]).2 := by simp [Array.getD_eq_getD_getElem?, e5]
        rw [e4]
  obtain ⟨L2, e1, e2, e3⟩ := key order.toList fun i hi => List.mem_range.mp (hp.mem_iff.mp hi)
  refine ⟨L2, by first | (rw [Array.toList_filterMap]; exact e1) | simpa using e1, ?_, e3⟩
  have h1 : L2.Perm ((List.range L.length).filterMap fun i => L[i]?) := by
    rw [e2]
    exact hp.filterMap _
  rw [pick_all] at h1
  exact h1
variable {a : Addr} {L : List (Addr × ND)} {es : Array (Int × Value)} {ep : Nat} {t : SetTable}
/-- the table laid anew, larger -/
theorem relayN {o : Obj} (ho : s.heap.get? a = some o) (hex : o.ExactSet) (hd : o.data = .set es ep t) (hrows : es.toList = rowsN w L) (hsz : t.place.size = es.size) (hdm : t.dummies = #[]) (hfl : es.size ≤ t.mask)
    (nd : (L.map (·.2)).Nodup) (is : ∀ p ∈ L, NestedIs s.heap p.2 (.ref p.1)) (ld : w.params.followText "set-order" = true ∨ t.led = true) (few : L.length < 64) {wanted M : Nat}
    (hw : SetTable.sizeAbove wanted - 1 = M) (hM : MaskOk M) (hw2 : SetTable.sizeAbove wanted ≤ 128) (hn : L.length * 5 < M * 3) {Q : Unit → Shared → Prop}
    (hQ : ∀ h' L' es' ep' t', Heap.SameBut a s.heap h' → SetN w h' a L' es' ep' t' → L'.Perm L → Q () { s with heap := h' }) : wpAny (model P w) A (setRelay a wanted) Q E s := by
  have hsl : es.size = L.length := by
    have q := congrArg List.length hrows
    rw [len_rows, Array.length_toList] at q
    exact q
  have hfits : t.fits es.size = true := by
    unfold SetTable.fits SetTable.fill
    rw [hdm, Bool.and_eq_true, beq_iff_eq, decide_eq_true_eq]
    show t.place.size = es.size ∧ t.place.size + 0 ≤ t.mask
    omega
  obtain ⟨t', order, e, hp, T, em, el, ep', ed⟩ := relaid_ok t (hs := es.map (·.1)) (wanted := wanted) hw hM (by rw [Array.size_map, hsl]; omega)
  rw [Array.size_map, hsl] at hp
  obtain ⟨L2, r1, r2, r3⟩ := order_rowsN L es order hrows hp
  rw [← r3] at T
  have hs2 : (order.filterMap (es[·]?)).size = es.size := by
    have q := congrArg List.length r1
    rw [len_rows, Array.length_toList, r2.length_eq] at q
    rw [q, hsl]
  rw [setRelay_eq]
  refine wpAny_bind (wpAny_setState_of ho hd hfits ?_)
  dsimp only
  refine wp_if_neg (by rw [sizeLine_eq]; omega) ?_
  try refine wpAny_bind (wpAny_pure ?_)
  rw [e]
  dsimp only
  refine wpAny_bind ?_
  refine wp_if_neg (by rw [hs2]; simp) ?_
  try refine wpAny_bind (wpAny_pure ?_)
  refine wpAny_pure ?_
  dsimp only
  refine wpAny_storeSet_of ho hd ?_ (by rw [hs2, hsl, sizeLine_eq]; omega)
  have sb : Heap.SameBut a s.heap (s.heap.update a (Obj.putSet (order.filterMap (es[·]?)) t')) := Heap.SameBut.update ..
  refine hQ _ L2 (order.filterMap (es[·]?)) (ep + 1) t' sb ?_ r2
  refine ⟨⟨_, store_at ho hd, ⟨hex.1, hex.2.1, hex.2.2⟩, rfl⟩, r1, T, ?_, fun p hpm => is_but (is p (r2.mem_iff.mp hpm)) ho hex.1 sb, by rw [el]; exact ld, ?_, by rw [r2.length_eq]; exact few⟩
  · exact (r2.map (·.2)).nodup_iff.mpr nd
  · rw [r2.length_eq, em]
    exact hn
/-- adding -/
theorem addN (R : SetN w s.heap a L es ep t) {x : Addr} {k : ND} (hx : NestedIs s.heap k (.ref x)) (hu : A.units + 60 < cLine) (hdk : k.depth ≤ 50) (hq : ∀ p ∈ L, x = p.1 ∨ (k.depth ≤ 8 ∧ p.2.depth ≤ 8)) (hfew : L.length + 1 < 64) {Q : Bool → Shared → Prop}
    (hQ : ∀ b h' L' es' ep' t', Heap.SameBut a s.heap h' → SetN w h' a L' es' ep' t' → (k ∈ L.map (·.2) → L' = L) → (k ∉ L.map (·.2) → L'.Perm ((x, k) :: L)) → Q b { s with heap := h' }) :
    wpAny (model P w) A (setAddHashed a (.ref x) (hN w k)) Q E s := by
  obtain ⟨o, ho, hex, hd⟩ := R.ob
  have hsl := R.size
  have hroom := R.room
  unfold setAddHashed
  refine wpAny_holding ?_
  rw [show (100000 : Nat) = 99999 + 1 from rfl, setAddHashedIn_succ]
  refine wpAny_bind (wpAny_setState_of ho hd R.fits ?_)
  dsimp only
  refine wp_if_neg (by simp [byScan, Value.scannable]) ?_
  try refine wpAny_bind (wpAny_pure ?_)
  refine wpAny_bind (searchN_at R hx hu hdk hq (fun hm => ?_) fun K hm hK hb => ?_)
  · dsimp only
    exact wpAny_pure (hQ false s.heap L es ep t (Heap.SameBut.refl a s.heap) R (fun _ => rfl) fun z => absurd hm z)
  · dsimp only
    refine wpAny_bind (wpAny_setState_of ho hd R.fits ?_)
    dsimp only
    obtain ⟨q1, q2, q3, q4, q5, q6, q7, q8, q9⟩ := R.tab.put hK hb
    generalize hpt : t.put (way t.mask (hN w k) K) = pt at q1 q3 q4 q5 q6 q7 q8 q9 ⊢
    obtain ⟨t1, p⟩ := pt
    dsimp only at q1 q3 q4 q5 q6 q7 q8 q9 ⊢
    subst q1
    have hin : (SetTable.insertAt es (SetTable.below t.place (way t.mask (hN w k) K)) (hN w k, Value.ref x)).toList = rowsN w (L.take (SetTable.below t.place (way t.mask (hN w k) K)) ++ (x, k) :: L.drop (SetTable.below t.place (way t.mask (hN w k) K))) := by
      rw [SetTable.toList_insertAt, rowsN_put, R.rows]
    generalize hpp : SetTable.below t.place (way t.mask (hN w k) K) = p at q2 q3 hin ⊢
    have pm := put_perm L p (x, k)
    have hlen : (L.take p ++ (x, k) :: L.drop p).length = L.length + 1 := pm.length_eq
    have hhs : (L.take p ++ (x, k) :: L.drop p).map (fun p => hN w p.2) = (L.map fun p => hN w p.2).take p ++ hN w k :: (L.map fun p => hN w p.2).drop p := by
      rw [List.map_append, List.map_cons, List.map_take, List.map_drop]
    rw [← hhs] at q3
    have nd1 : ((L.take p ++ (x, k) :: L.drop p).map (·.2)).Nodup := by
      refine (pm.map (·.2)).nodup_iff.mpr ?_
      rw [List.map_cons]
      exact List.nodup_cons.mpr ⟨hm, R.nd⟩
    have hes : (SetTable.insertAt es p (hN w k, Value.ref x)).size = L.length + 1 := by
      have q := congrArg List.length hin
      rw [len_rows, Array.length_toList, hlen] at q
      exact q
    generalize SetTable.insertAt es p (hN w k, Value.ref x) = es1 at hin hes ⊢
    generalize L.take p ++ (x, k) :: L.drop p = L1 at pm hlen q3 nd1 hin
    -- what follows, whatever the table is told of its hashes
    have go : ∀ t2 : SetTable, t2.mask = t1.mask → t2.place = t1.place → t2.dummies = t1.dummies → t2.led = t1.led → TabOk t2 (L1.map fun p => hN w p.2) → t2.tooFull = t1.tooFull →
        wpAny (model P w) A (do
          storeSet a es1 t2
          if !false && t2.tooFull then setRelay a (SetTable.grown (es.size + 1))
          return true) Q E s := by
      intro t2 m2 p2 d2 l2 T2 f2
      refine wpAny_bind (wpAny_storeSet_of ho hd ?_ (by rw [hes, sizeLine_eq]; omega))
      have sb : Heap.SameBut a s.heap (s.heap.update a (Obj.putSet es1 t2)) := Heap.SameBut.update ..
      have ho1 := store_at (es' := es1) (t' := t2) ho hd
      generalize s.heap.update a (Obj.putSet es1 t2) = h1 at sb ho1 ⊢
      have is1 : ∀ p ∈ L1, NestedIs h1 p.2 (.ref p.1) := fun p hp => by
        rcases List.mem_cons.mp (pm.mem_iff.mp hp) with e | hp
        · rw [e]; exact is_but hx ho hex.1 sb
        · exact is_but (R.is p hp) ho hex.1 sb
      have ld1 : w.params.followText "set-order" = true ∨ t2.led = true := by rw [l2, q5]; exact R.led
      by_cases hf : t2.tooFull = true
      · first
          | (refine wpAny_bind ?_; refine wp_if_pos (by simp [hf]) ?_)
          | (refine wp_if_pos (by simp [hf]) ?_; refine wpAny_bind ?_)
        have hfull : (L.length + 1) * 5 ≥ t1.mask * 3 := by
          have q := hf
          rw [f2] at q
          unfold SetTable.tooFull at q
          rw [decide_eq_true_eq, q9, List.length_map] at q
          exact q
        rw [hsl]
        have hsz1 : t2.place.size = es1.size := by
          have q := q3.sz
          rw [List.length_map, hlen] at q
          rw [p2, q, hes]
        have two : (t.mask = 7 ∧ L.length = 4) ∨ (t.mask = 31 ∧ L.length = 18) := by
          rcases R.tab.mok with e | e | e
          · left; rw [q4, e] at hfull; rw [e] at hroom; exact ⟨e, by omega⟩
          · right; rw [q4, e] at hfull; rw [e] at hroom; exact ⟨e, by omega⟩
          · exfalso; rw [q4, e] at hfull; omega
        have goM : ∀ M, SetTable.sizeAbove (SetTable.grown (L.length + 1)) - 1 = M → MaskOk M → SetTable.sizeAbove (SetTable.grown (L.length + 1)) ≤ 128 → (L.length + 1) * 5 < M * 3 →
            wpAny (model P w) A (setRelay a (SetTable.grown (L.length + 1))) (fun _ s' => wpAny (model P w) A (pure true) Q E s') E { s with heap := h1 } := fun M h1' h2' h3' h4' => by
          refine relayN (s := { s with heap := h1 }) ho1 ⟨hex.1, hex.2.1, hex.2.2⟩ rfl hin hsz1 T2.dm (by rw [hes, m2, q4]; rcases two with ⟨e, e2⟩ | ⟨e, e2⟩ <;> omega) nd1 is1 ld1 (by rw [hlen]; exact hfew) h1' h2' h3' (by rw [hlen]; exact h4') ?_
          intro h2 L2 es2 ep2 t2 sb2 R2 pm2
          exact wpAny_pure (hQ true h2 L2 es2 ep2 t2 (sb.trans sb2) R2 (fun z => absurd z hm) fun _ => pm2.trans pm)
        rcases two with ⟨_, e2⟩ | ⟨_, e2⟩
        · refine goM 31 (by rw [e2, size_20]) (.inr (.inl rfl)) (by rw [e2, size_20]; decide) (by omega)
        · refine goM 127 (by rw [e2, size_76]) (.inr (.inr rfl)) (by rw [e2, size_76]; decide) (by omega)
      · first
          | refine wp_if_neg (by simp [hf]) ?_
          | (refine wpAny_bind ?_; refine wp_if_neg (by simp [hf]) ?_; refine wpAny_pure ?_)
        refine wpAny_pure (hQ true h1 L1 es1 (ep + 1) t2 sb ⟨⟨_, ho1, ⟨hex.1, hex.2.1, hex.2.2⟩, rfl⟩, hin, T2, nd1, is1, ld1, ?_, by rw [hlen]; exact hfew⟩ (fun z => absurd z hm) fun _ => pm)
        have q := hf
        rw [f2] at q
        unfold SetTable.tooFull at q
        rw [decide_eq_true_eq, q9, List.length_map] at q
        rw [hlen, m2]
        omega
    have hT : ∀ b : Bool, TabOk (if b = true then t1 else { t1 with plain := false }) (L1.map fun p => hN w p.2) := fun b => by
      cases b
      · exact ⟨q3.ris, q3.dm, q3.sz, q3.mok, q3.bd, q3.reach⟩
      · exact q3
    have both : ∀ b : Bool, wpAny (model P w) A (do
          storeSet a es1 (if b = true then t1 else { t1 with plain := false })
          if !false && (if b = true then t1 else { t1 with plain := false }).tooFull then setRelay a (SetTable.grown (es.size + 1))
          return true) Q E s := fun b => by
      have T := hT b
      cases b
      · exact go _ rfl rfl rfl rfl T rfl
      · exact go _ rfl rfl rfl rfl T rfl
    by_cases hp : t1.plain = true
    · refine wp_if_pos hp (wpAny_bind (hashBy_nd 8 k _ _ hx fun b => ?_))
      exact both b
    · refine wp_if_neg hp (wpAny_bind (wpAny_pure ?_))
      exact both true
end
/-! ### a set made of a tuple -/
/-- what the set has got from the first i items -/
structure GotN (ks : List (Addr × ND)) (i : Nat) (L : List (Addr × ND)) : Prop where
  sub : ∀ p ∈ L, p ∈ ks.take i
  all : ∀ p ∈ ks.take i, p.2 ∈ L.map (·.2)
  len : L.length ≤ i
theorem GotN.zero (ks : List (Addr × ND)) : GotN ks 0 [] := ⟨fun p h => (by cases h), fun p h => (by simp at h), Nat.le_refl _⟩
theorem GotN.same {ks L : List (Addr × ND)} {i : Nat} {x : Addr × ND} (g : GotN ks i L) (h : ks[i]? = some x) (hm : x.2 ∈ L.map (·.2)) : GotN ks (i + 1) L := by
  refine ⟨fun p hp => ?_, fun p hp => ?_, Nat.le_succ_of_le g.len⟩
  · rw [take_next h]
    exact List.mem_append_left _ (g.sub p hp)
  · rw [take_next h] at hp
    rcases List.mem_append.mp hp with z | z
    · exact g.all p z
    · rw [List.mem_singleton.mp z]; exact hm
theorem GotN.more {ks L L' : List (Addr × ND)} {i : Nat} {x : Addr × ND} (g : GotN ks i L) (h : ks[i]? = some x) (pm : L'.Perm (x :: L)) : GotN ks (i + 1) L' := by
  refine ⟨fun p hp => ?_, fun p hp => ?_, ?_⟩
  · rw [take_next h]
    rcases List.mem_cons.mp (pm.mem_iff.mp hp) with e | z
    · rw [e]; exact List.mem_append_right _ (List.mem_singleton.mpr rfl)
    · exact List.mem_append_left _ (g.sub p z)
  · rw [(pm.map (·.2)).mem_iff, List.map_cons]
    rw [take_next h] at hp
    rcases List.mem_append.mp hp with z | z
    · exact List.mem_cons_of_mem _ (g.all p z)
    · rw [List.mem_singleton.mp z]; exact List.mem_cons_self
  · rw [pm.length_eq, List.length_cons]
    exact Nat.succ_le_succ g.len
section
variable {P : Program} {w : World} {A : Around} {E : Value → Shared → Prop} {s : Shared}
theorem SetN.keep {h h' : Heap} {a : Addr} {L : List (Addr × ND)} {es : Array (Int × Value)} {ep : Nat} {t : SetTable} (R : SetN w h a L es ep t) (ha : ∀ o, h.get? a = some o → h'.get? a = some o) (ht : ∀ p ∈ L, NestedIs h' p.2 (.ref p.1)) : SetN w h' a L es ep t := by
  obtain ⟨o, ho, r⟩ := R.ob
  exact ⟨⟨o, ha o ho, r⟩, R.rows, R.tab, R.nd, ht, R.led, R.room, R.few⟩
theorem setN_fresh {h : Heap} {a : Addr} (ho : h.get? a = some { cls := .type "set", dict := none, data := .set #[] 0 (.fresh 0 0 (!w.params.followText "set-order")) }) : SetN w h a [] #[] 0 (.fresh 0 0 (!w.params.followText "set-order")) where
  ob := ⟨_, ho, ⟨rfl, rfl, rfl⟩, rfl⟩
  rows := rfl
  tab := ⟨List.Pairwise.nil, rfl, rfl, .inl rfl, fun x hx => (by cases hx), fun i h j hi => (by simp at hi)⟩
  nd := List.nodup_nil
  is := fun p hp => (by cases hp)
  led := by
    show _ ∨ (!w.params.followText "set-order") = true
    cases w.params.followText "set-order"
    · exact .inr rfl
    · exact .inl rfl
  room := by
    show 0 * 5 < 7 * 3
    decide
  few := by
    show 0 < 64
    decide
/-- which elements may stand in one set: any two are one object, or neither is too deep -/
def Shal (ks : List (Addr × ND)) : Prop := (∀ p ∈ ks, p.2.depth ≤ 50) ∧ ∀ p ∈ ks, ∀ q ∈ ks, p.1 = q.1 ∨ (p.2.depth ≤ 8 ∧ q.2.depth ≤ 8)
theorem updateN {I : Addr} {fp wr : List Addr} {G : Array GenState → Array GenState → Prop} {n : Nat} {Pv : Nat → Value → Prop} {St : Nat → Shared → Prop} {R : Result → Shared → Prop}
    (W : WalksS P w A.in1 I fp wr G n Pv St) (S : Addr) (hSf : S ∉ fp) (ks : List (Addr × ND)) (hn : n = ks.length) (hfew : ks.length < 64) (hsh : Shal ks) (hval : ∀ i v, Pv i v → ∃ p, ks[i]? = some p ∧ v = .ref p.1)
    (h0 : Heap) (hk : ∀ p ∈ ks, NestedIs h0 p.2 (.ref p.1)) (hS0 : h0.get? S = none) (hw0 : ∀ b ∈ wr, h0.get? b = none) (hu : A.in1.units + 60 < cLine) :
    ∀ (k i : Nat) (s : Shared), n - i = k → i ≤ n → St i s → (∀ b o, h0.get? b = some o → s.heap.get? b = some o) → (∃ L es ep t, SetN w s.heap S L es ep t ∧ GotN ks i L) →
      (∀ s' L es ep t, Moved (S :: wr) G s s' → SetN w s'.heap S L es ep t → GotN ks n L → (∀ b o, h0.get? b = some o → s'.heap.get? b = some o) → R (.ok (.ret .none)) s') →
      codeAny (model P w) A (.builtin "set.update.loop" ⟨[.ref S, .ref I], []⟩) R s := by
  have hSw : S ∉ wr := fun h => hSf (W.sub _ h)
  have hsub : ∀ b ∈ wr, b ∈ S :: wr := fun b hb => List.mem_cons_of_mem _ hb
  have keepM : ∀ {s s' : Shared}, Moved wr G s s' → (∀ b o, h0.get? b = some o → s.heap.get? b = some o) → ∀ b o, h0.get? b = some o → s'.heap.get? b = some o := fun hm hkp b o e =>
    hm.heap b o (fun hb => by rw [hw0 b hb] at e; cases e) (hkp b o e)
  have isK : ∀ {h' : Heap} {p : Addr × ND}, p ∈ ks → (∀ b o, h0.get? b = some o → h'.get? b = some o) → NestedIs h' p.2 (.ref p.1) := fun hp hkp => NestedIs.at (fun b o _ _ e _ => hkp b o e) _ _ (hk _ hp)
  intro k
  induction k with
  | zero =>
    intro i s hk' hi hst hkp ⟨L, es, ep, t, hS, g⟩ hR
    have hin : i = n := by omega
    subst hin
    refine codeAny_builtin F.entry_set_update_loop ?_
    rw [Around.under_plainId F.plain_set_update_loop _]
    show wpAny _ A.in1 (pyNext (.ref I) >>= _) _ _ s
    refine wpAny_bind (W.done s _ _ hst fun s' hm => ?_)
    show wpAny _ A.in1 (ret Value.none) _ _ s'
    have hkp' := keepM hm hkp
    exact wpAny_pure (hR s' L es ep t (hm.mono hsub) (hS.keep (fun o e => hm.heap S o hSw e) fun p hp => isK (List.mem_of_mem_take (g.sub p hp)) hkp') g hkp')
  | succ k ih =>
    intro i s hk' hi hst hkp ⟨L, es, ep, t, hS, g⟩ hR
    have hlt : i < n := by omega
    refine codeAny_builtin F.entry_set_update_loop ?_
    rw [Around.under_plainId F.plain_set_update_loop _]
    show wpAny _ A.in1 (pyNext (.ref I) >>= _) _ _ s
    refine wpAny_bind (W.item i s _ _ hlt hst fun v s' hP hst' hm => ?_)
    obtain ⟨p, hp, rfl⟩ := hval i v hP
    have hpm : p ∈ ks := List.mem_of_getElem? hp
    have hkp' := keepM hm hkp
    have sub : ∀ q ∈ L, q ∈ ks := fun q hq => List.mem_of_mem_take (g.sub q hq)
    have hS' : SetN w s'.heap S L es ep t := hS.keep (fun o e => hm.heap S o hSw e) fun q hq => isK (sub q hq) hkp'
    have hx : NestedIs s'.heap p.2 (.ref p.1) := isK hpm hkp'
    have hdp := hsh.1 p hpm
    show wpAny _ A.in1 (holding [Value.ref p.1] (setAdd S (.ref p.1)) >>= _) _ _ s'
    refine wpAny_bind (wpAny_holding ?_)
    unfold setAdd
    refine wpAny_holding ?_
    refine wpAny_bind (pyHash_key p.2 _ _ _ _ hx (by omega) ?_)
    refine addN (s := { s' with toks := s'.toks + p.2.draws }) hS' hx hu hdp (fun q hq => hsh.2 p hpm q (sub q hq)) (by have := g.len; omega) fun b h' L' es' ep' t' hsb hS2 c1 c2 => ?_
    have g' : GotN ks (i + 1) L' := by
      rcases Classical.em (p.2 ∈ L.map (·.2)) with c | c
      · rw [c1 c]; exact g.same hp c
      · exact g.more hp (c2 c)
    have hkp2 : ∀ b o, h0.get? b = some o → h'.get? b = some o := fun b o e => (hsb.2 b (fun z => by rw [z, hS0] at e; cases e)).trans (hkp' b o e)
    refine wpAny_pure ⟨plainId_quiet F.plain_set_update_loop _, ih (i + 1) _ (by omega) hlt (W.frame _ s' _ _ hst' (Nat.le_add_right _ _) fun b hb o e => ?_) hkp2 ⟨L', es', ep', t', hS2, g'⟩ fun s'' L2 es2 ep2 t2 hm'' hS'' g'' hkp'' => ?_⟩
    · rw [hsb.2 b (fun h : b = S => hSf (by rw [← h]; exact hb))]; exact e
    · refine hR s'' L2 es2 ep2 t2 (Moved.trans W.gtrans ((hm.mono hsub).then_heap (Nat.le_add_right _ _) fun b o hb e => ?_) hm'') hS'' g'' hkp''
      rw [hsb.2 b (fun h : b = S => hb (by rw [h]; exact List.mem_cons_self))]; exact e
end
end TC

namespace TC
open PySem PySem.Spec PyProof.Rows L2
section
variable {P : Program} {w : World} {A : Around} {E : Value → Shared → Prop} {s : Shared}
def mtSet (w : World) : Obj := { cls := .type "set", dict := none, data := .set #[] 0 (.fresh 0 0 (!w.params.followText "set-order")) }
/-- set(t), t a tuple of nested data -/
theorem call_setN {l : Addr} {items : Array Value} (ks : List (Addr × ND)) {Q : Value → Shared → Prop} (hh : A.handled = none) (hl : s.heap.IsTuple l items) (hit : items.toList = ks.map fun p => Value.ref p.1)
    (hk : ∀ p ∈ ks, NestedIs s.heap p.2 (.ref p.1)) (hsh : Shal ks) (hfew : ks.length < 64) (hu : A.units + 63 < cLine)
    (h : ∀ (h' : Heap) (tk : Nat) L es ep t, SetN w h' s.heap.objs.size L es ep t → GotN ks ks.length L → (∀ b o, s.heap.get? b = some o → h'.get? b = some o) → Q (.ref s.heap.objs.size) { s with heap := h', toks := tk }) :
    wpAny (model P w) A (call (.type "set") [.ref l]) Q E s := by
  have hisz : items.size = ks.length := by
    have q := congrArg List.length hit
    rw [Array.length_toList, List.length_map] at q
    exact q
  obtain ⟨c, tl, hmro⟩ := F.called_set.mro
  have hmade := F.called_set.made
  have hsub := F.called_set.sub
  refine wpAny_call (codeAny_of_tree ?_)
  show wpAny _ _ (callAny (.type "set") _) _ _ _
  refine wpAny_pure ⟨Code.quiet_builtin _ (by decide +kernel), codeAny_builtin F.entry_type_call ?_⟩
  rw [Around.under_plain (weight_type_call_type "set" [.ref l] []) rfl]
  have h1 := F.called_set.notType
  have h2 := F.called_set.canCreate
  have hct := F.typeCall_set_1 (.ref l)
  repeat (any_goals (first | assumption | wp_step))
  refine codeAny_mono (code_set_led1 (.ref l) (E := E) (Q₁ := fun obj t => obj = .ref s.heap.objs.size ∧ t = { s with heap := s.heap.push (mtSet w) }) ⟨rfl, rfl⟩) fun r t hr => ?_
  cases r with
  | error e => exact hr
  | ok fl =>
    cases fl with
    | ret obj =>
      obtain ⟨rfl, rfl⟩ := hr
      have hS : (s.heap.push (mtSet w)).get? s.heap.objs.size = some (mtSet w) := Heap.get?_push_size _ rfl
      have hT : Shared.TypeIs { s with heap := s.heap.push (mtSet w) } (.ref s.heap.objs.size) "set" := ⟨_, hS, rfl⟩
      have hli := F.called_set.init.lookup
      have hbi := F.called_set.init.bind (.ref s.heap.objs.size)
      repeat (any_goals (first | assumption | wp_step))
      refine codeAny_mono (codeAny_call_builtin (R := wants (fun r t => r = .none ∧ ∃ h' tk L es ep tb, t = { s with heap := h', toks := tk } ∧ SetN w h' s.heap.objs.size L es ep tb ∧ GotN ks ks.length L ∧
          (∀ b o, s.heap.get? b = some o → h'.get? b = some o)) E) F.called_set.init.plain F.entry_set_init (check_set_init_1 hT ?_)) fun r₂ t₂ hr₂ => ?_
      · obtain ⟨ol, hol, hcl, nl, hdl⟩ := hl
        obtain ⟨ocls, odict, odata, oslots⟩ := ol
        simp only at hcl hdl
        subst hcl; subst hdl
        have hol' : (s.heap.push (mtSet w)).get? l = some { cls := .type "tuple", dict := odict, data := .seq items nl, slots := oslots } := Heap.get?_push_of_some _ hol
        have hsls := F.sub_tuple_set
        have hslf := F.sub_tuple_frozenset
        have hne : (Value.type "tuple" == Value.type "dict") = false := by decide
        have hl1 : (s.heap.push (mtSet w)).IsTuple l items := ⟨_, hol', rfl, nl, rfl⟩
        unfold Builtin.«set.__init__» noKeywords Builtin.Frozenset.updateFrom
        generalize hPI : pyIter = PI
        wp_walk
        subst hPI
        refine wpAny_pyIter_tuple hl1 ?_
        refine wpAny_bind (wpAny_runValue ?_)
        have hlS : l < s.heap.objs.size := Heap.lt_size hol
        have hh3 : A.in1.in1.in1.handled = none := by simp [hh]
        have hz1 : (s.heap.push (mtSet w)).objs.size = s.heap.objs.size + 1 := Heap.size_push ..
        have hneI : l ≠ (s.heap.push (mtSet w)).objs.size := by
          rw [hz1]; exact Nat.ne_of_lt (Nat.lt_succ_of_lt hlS)
        have hSf : s.heap.objs.size ∉ [(s.heap.push (mtSet w)).objs.size, l] := by
          rw [hz1]
          intro q
          rcases List.mem_cons.mp q with q | q
          · exact absurd q (Nat.ne_of_lt (Nat.lt_succ_self _))
          · exact absurd (List.mem_singleton.mp q) (Nat.ne_of_gt hlS)
        have hval : ∀ (i : Nat) (v : Value), items[i]? = some v → ∃ p, ks[i]? = some p ∧ v = .ref p.1 := fun i v hv => by
          have q : items.toList[i]? = some v := by rw [Array.getElem?_toList]; exact hv
          rw [hit, List.getElem?_map] at q
          obtain ⟨p, hp, e⟩ := Option.map_eq_some_iff.mp q
          exact ⟨p, hp, e.symm⟩
        have none_of : ∀ b, s.heap.objs.size ≤ b → s.heap.get? b = none := fun b hb => by
          cases q : s.heap.get? b with
          | none => rfl
          | some o => exact absurd (Nat.lt_of_lt_of_le (Heap.lt_size q) hb) (Nat.lt_irrefl _)
        refine updateN ((Walks.tuple hh3 _ l hneI items).toS) s.heap.objs.size
          hSf ks hisz hfew hsh hval s.heap hk (none_of _ (Nat.le_refl _)) (fun b hb => none_of b (by
            rw [List.mem_singleton.mp hb, hz1]
            exact Nat.le_succ _)) (by show A.units + 1 + 1 + 1 + 60 < cLine; omega) (items.size - 0) 0 _ (by omega) (Nat.zero_le _)
          ⟨⟨_, Heap.get?_push_size _ rfl, rfl, rfl⟩, (hl1.push _)⟩ (fun b o e => Heap.get?_push_of_some _ (Heap.get?_push_of_some _ e)) ?hS0 ?hR
        case hS0 =>
          exact ⟨[], #[], 0, _, setN_fresh (Heap.get?_push_of_some _ hS), GotN.zero ks⟩
        case hR =>
          intro s' L es ep t hm hS' g' hkp
          obtain ⟨h', g2, d', tk', os'⟩ := s'
          have eg : g2 = s.gens := hm.gens
          have ed : d' = s.drawn := hm.drawn
          have eo : os' = s.os := hm.os
          subst eg; subst ed; subst eo
          show wpAny _ _ _ _ _ _
          refine wpAny_pure ?_
          show wpAny _ _ (ret Value.none) _ _ _
          rw [hisz] at g'
          exact wpAny_pure ⟨rfl, h', tk', L, es, ep, t, rfl, hS', g', hkp⟩
      · cases r₂ with
        | error e => exact hr₂
        | ok fl₂ =>
          cases fl₂ with
          | ret r =>
            obtain ⟨rfl, h', tk, L, es, ep, t, rfl, hS', g', hk'⟩ := hr₂
            repeat (any_goals (first | assumption | wp_step))
            exact h _ _ _ _ _ _ hS' g' hk'
          | _ => exact hr₂.elim
    | _ => exact hr.elim
/-- the addresses of the rows, told back -/
theorem refs_back {L : List (Addr × ND)} : ∀ vs : List Value, (∀ v ∈ vs, ∃ q ∈ L, v = Value.ref q.1) → ∃ L1 : List (Addr × ND), vs = L1.map (fun q => Value.ref q.1) ∧ ∀ q ∈ L1, q ∈ L
  | [], _ => ⟨[], rfl, fun q hq => (by cases hq)⟩
  | v :: vs, hv => by
    obtain ⟨q, hq, e⟩ := hv v List.mem_cons_self
    obtain ⟨L1, e1, hs⟩ := refs_back vs fun u hu => hv u (List.mem_cons_of_mem _ hu)
    refine ⟨q :: L1, by rw [List.map_cons, e, e1], fun r hr => ?_⟩
    rcases List.mem_cons.mp hr with z | z
    · rw [z]; exact hq
    · exact hs r z
/-- sorted(set): a new list of the elements, in order -/
theorem sorted_setN {a : Addr} {L : List (Addr × ND)} {es : Array (Int × Value)} {ep : Nat} {t : SetTable} {Q : Value → Shared → Prop} (R : SetN w s.heap a L es ep t) (S : Srtb (L.map (·.2))) (hh : A.handled = none) (hu : A.units + 60 < cLine)
    (hQ : ∀ s' p (c : Nat) (L' : List (Addr × ND)), (∀ b o, s.heap.get? b = some o → s'.heap.get? b = some o) → s'.gens = s.gens → s'.os = s.os → s.heap.objs.size ≤ p →
      s'.heap.get? p = some (seqObj "list" (L'.map fun q => Value.ref q.1).toArray c) → L'.Perm L → (L'.map (·.2)).Pairwise (fun x y => ltD x y = true) → Q (.ref p) s') :
    wpAny (model P w) A (call (.builtin "sorted") [.ref a]) Q E s := by
  obtain ⟨o, ho, hex, hd⟩ := R.ob
  have hsz := R.size
  have hfew := R.few
  refine Calls.call_function_entry kind_sorted plain_sorted entry_sorted (args_sorted1 _) ?_
  unfold Builtin.«sorted»
  refine wpAny_bind (m := checkCount "sorted" 1 1 _) (wpAny_pure ?_)
  refine wpAny_bind (collect_set (A := A.in1) hh ⟨o, ho, hex.1, hd⟩ R.fits (by unfold scanBound; omega) R.tab.ris R.led fun s1 vs k1 hz g1 o1 pm => ?_)
  have hes : es.toList.map (·.2) = L.map fun q => Value.ref q.1 := by
    rw [R.rows]
    unfold rowsN
    rw [List.map_map] <;> rfl
  rw [hes] at pm
  have hvl : vs.length = L.length := by rw [pm.length_eq, List.length_map]
  have hin : ∀ v ∈ vs, ∃ q ∈ L, v = Value.ref q.1 := fun v hv => by
    obtain ⟨q, hq, e⟩ := List.mem_map.mp (pm.mem_iff.mp hv)
    exact ⟨q, hq, e.symm⟩
  refine wpAny_bind (wpAny_newList ?_ (by rw [sizeLine_eq]; omega))
  have hoL : (s1.heap.push (seqObj "list" vs.toArray 0)).get? s1.heap.objs.size = some (seqObj "list" vs.toArray 0) := Heap.get?_push_size _ rfl
  have isq : ∀ q ∈ L, NestedIs (s1.heap.push (seqObj "list" vs.toArray 0)) q.2 (.ref q.1) := fun q hq => NestedIs.at (fun b u _ _ e _ => Heap.get?_push_of_some _ (k1 b u e)) _ _ (R.is q hq)
  have hv : ∀ v ∈ vs, ∃ d ∈ L.map (·.2), NestedIs (s1.heap.push (seqObj "list" vs.toArray 0)) d v := fun v hm => by
    obtain ⟨q, hq, e⟩ := hin v hm
    exact ⟨q.2, List.mem_map.mpr ⟨q, hq, rfl⟩, by rw [e]; exact isq q hq⟩
  refine wpAny_bind (wpAny_holding (wpAny_call_entry slot_list_sort ⟨_, hoL, rfl⟩ entry_list_sort (SrtO.list_sort_ord (s := { s1 with heap := s1.heap.push (seqObj "list" vs.toArray 0) }) (swo_dat (s1.heap.push (seqObj "list" vs.toArray 0))) hoL (by rw [sizeLine_eq]; omega)
    (fun h2 => sortable_nd S (by omega) hv (by show A.units + 1 + 1 + 41 < cLine; omega) fun o e => by
      have e' : some o = some (seqObj "list" vs.toArray 0) := e.symm.trans hoL
      cases e'
      rfl) fun out hs hb => ⟨_, rfl, ?_⟩) (args_list_sort _)))
  have pmo := hb.perm.trans pm
  obtain ⟨L', e', hs'⟩ := refs_back (L := L) out fun v hm => hin v (hb.perm.mem_iff.mp hm)
  have one : ∀ q ∈ L, ∀ r ∈ L, q.1 = r.1 → q = r := fun q hq r hr e => by
    have a1 := R.is q hq
    have a2 := R.is r hr
    rw [e] at a1
    exact Prod.ext e (NestedIs.inj _ _ _ a1 a2)
  have nL : L.Nodup := nodup_of_map R.nd
  have nref : (L.map fun q => Value.ref q.1).Nodup := by
    refine List.pairwise_map.mpr (List.Pairwise.imp_of_mem (fun {q r} hq hr hne e => ?_) nL)
    injection e with e
    exact hne (one q hq r hr e)
  rw [e'] at pmo hs
  have n1 : L'.Nodup := nodup_of_map (pmo.nodup_iff.mpr nref)
  have pL : L'.Perm L := (List.perm_ext_iff_of_nodup n1 nL).mpr fun q => ⟨hs' q, fun hq => by
    have hm : Value.ref q.1 ∈ L'.map (fun q => Value.ref q.1) := pmo.mem_iff.mpr (List.mem_map.mpr ⟨q, hq, rfl⟩)
    obtain ⟨r, hr, e⟩ := List.mem_map.mp hm
    injection e with e
    rw [← one r (hs' r hr) q hq e]
    exact hr⟩
  have pw : (L'.map (·.2)).Pairwise (fun x y => ltD x y = true) := by
    have nd' : (L'.map (·.2)).Nodup := (pL.map (·.2)).nodup_iff.mpr R.nd
    have hs3 : List.Pairwise (fun v u => ltD (datOf _ u) (datOf _ v) = false) (L'.map fun q => Value.ref q.1) := hs
    rw [List.pairwise_map] at hs3 ⊢
    have nd2 := List.pairwise_map.mp nd'
    refine List.Pairwise.imp_of_mem (fun {q r} hq hr hle => ?_) (hs3.and nd2)
    obtain ⟨h3, h4⟩ := hle
    rw [datOf_eq (isq q (hs' q hq)), datOf_eq (isq r (hs' r hr))] at h3
    rcases ltD_tri q.2 r.2 with z | z | z
    · exact z
    · exact absurd z h4
    · rw [z] at h3
      cases h3
  obtain ⟨c, hc⟩ := sortedHeap_at (vs := vs) (out := out.toArray) hoL
  refine wpAny_pure ⟨_, rfl, hQ _ s1.heap.objs.size c L' (fun b u e => ?_) g1 o1 hz (by rw [← e']; exact hc) pL pw⟩
  have q := k1 b u e
  have hlt := Heap.lt_size q
  show (sortedHeap (s1.heap.push (seqObj "list" vs.toArray 0)) s1.heap.objs.size vs out.toArray).get? b = some u
  rw [sortedHeap_old (Nat.ne_of_lt hlt) (by rw [size_push']; exact Nat.lt_succ_of_lt hlt)]
  exact Heap.get?_push_of_some _ q
end
end TC

namespace TC
open PySem PySem.Spec PyProof.Rows L2
/-! ### nested data over the abstract heap -/
mutual
/-- v is the nested tuple d -/
inductive Dn (K : PySem.W.Frag) (H : Hp) : V → ND → Prop
  | non : Dn K H .non .none
  | int (i : Int) : Dn K H (.int i) (.num i)
  | str (x : Str) (h : PyData.strOk x = true) : Dn K H (.str x) (.text x)
  | tup {a : Addr} {xs : List V} {ds : List ND} : SqT K H a xs → DnAll K H xs ds → Dn K H (.ref a) (.tup ds)
inductive DnAll (K : PySem.W.Frag) (H : Hp) : List V → List ND → Prop
  | nil : DnAll K H [] []
  | cons {v : V} {vs : List V} {d : ND} {ds : List ND} : Dn K H v d → DnAll K H vs ds → DnAll K H (v :: vs) (d :: ds)
end
/-- the tuples stay -/
def Tk (H H' : Hp) : Prop := ∀ b xs, Rd H b (.tup xs) → Rd H' b (.tup xs)
theorem Tk.refl (H : Hp) : Tk H H := fun _ _ h => h
theorem Tk.trans {H H1 H2 : Hp} (a : Tk H H1) (b : Tk H1 H2) : Tk H H2 := fun c xs h => b c xs (a c xs h)
theorem Tk.same {H H' : Hp} (e : Same H H') : Tk H H' := fun b xs h => h.elim (fun h => .inl (e _ _ h)) fun ⟨o, h⟩ => .inr ⟨o, e _ _ h⟩
theorem Tk.new {H : Hp} {p : Addr} {o : HO} (h : H p = none) : Tk H (upd H p o) := Tk.same fun b u q => by rw [upd_ne (ne_of_none q h)]; exact q
/-- a thing that is no tuple is changed -/
theorem Tk.put {H : Hp} {p : Addr} {o u : HO} (h : H p = some u) (h1 : ∀ xs, u ≠ .tup xs) (h2 : ∀ ob xs, u ≠ .frz ob (.tup xs)) : Tk H (upd H p o) := fun b xs q => by
  have hb : b ≠ p := by
    rintro rfl
    rcases q with q | ⟨ob, q⟩
    · rw [h] at q; exact h1 xs (Option.some.inj q)
    · rw [h] at q; exact h2 ob xs (Option.some.inj q)
  unfold Rd
  rw [upd_ne hb]
  exact q
theorem Tk.lst {H : Hp} {p : Addr} {o : HO} {xs : List V} (h : H p = some (.lst xs)) : Tk H (upd H p o) := Tk.put h (fun _ z => by cases z) fun _ _ z => by cases z
theorem Tk.dK {H : Hp} {p : Addr} {o : HO} {xs : List (Key × V)} (h : H p = some (.dK xs)) : Tk H (upd H p o) := Tk.put h (fun _ z => by cases z) fun _ _ z => by cases z
theorem Tk.sqt {K : PySem.W.Frag} {H H' : Hp} (t : Tk H H') {a : Addr} {xs : List V} (h : SqT K H a xs) : SqT K H' a xs := h.elim (fun h => .inl (t a xs h)) .inr
mutual
theorem Dn.mono {K : PySem.W.Frag} {H H' : Hp} (t : Tk H H') : ∀ (d : ND) (v : V), Dn K H v d → Dn K H' v d
  | .none, _, h => by cases h; exact .non
  | .num i, _, h => by cases h; exact .int i
  | .text x, _, h => by
    cases h with
    | str _ ok => exact .str x ok
  | .tup ds, _, h => by
    cases h with
    | tup hs ha => exact .tup (t.sqt hs) (DnAll.mono t ds _ ha)
theorem DnAll.mono {K : PySem.W.Frag} {H H' : Hp} (t : Tk H H') : ∀ (ds : List ND) (vs : List V), DnAll K H vs ds → DnAll K H' vs ds
  | [], _, h => by cases h; exact .nil
  | d :: ds, _, h => by
    cases h with
    | cons h1 h2 => exact .cons (Dn.mono t d _ h1) (DnAll.mono t ds _ h2)
end
theorem Dn.tk {K : PySem.W.Frag} {H H' : Hp} {d : ND} {v : V} (h : Dn K H v d) (t : Tk H H') : Dn K H' v d := Dn.mono t d v h
theorem DnAll.len {K : PySem.W.Frag} {H : Hp} : ∀ {vs : List V} {ds : List ND}, DnAll K H vs ds → vs.length = ds.length
  | _, _, .nil => rfl
  | _, _, .cons _ t => by rw [List.length_cons, List.length_cons, DnAll.len t]
theorem DnAll.mem {K : PySem.W.Frag} {H : Hp} : ∀ {vs : List V} {ds : List ND}, DnAll K H vs ds → ∀ v ∈ vs, ∃ d ∈ ds, Dn K H v d
  | _, _, .cons h t, v, hv => by
    rcases List.mem_cons.mp hv with e | hv
    · exact ⟨_, List.mem_cons_self, e ▸ h⟩
    · obtain ⟨d, hd, q⟩ := DnAll.mem t v hv
      exact ⟨d, List.mem_cons_of_mem _ hd, q⟩
mutual
theorem Dn.dp {K : PySem.W.Frag} {H : Hp} : ∀ (d : ND) (v : V), Dn K H v d → Dp K H v d.data
  | .none, _, h => by cases h; simp only [NestedKey.data]; exact .non
  | .num i, _, h => by cases h; simp only [NestedKey.data]; exact .int i
  | .text x, _, h => by
    cases h with
    | str _ ok => simp only [NestedKey.data]; exact .str x
  | .tup ds, _, h => by
    cases h with
    | tup hs ha => simp only [NestedKey.data]; exact .tup hs (DnAll.dp ds _ ha)
theorem DnAll.dp {K : PySem.W.Frag} {H : Hp} : ∀ (ds : List ND) (vs : List V), DnAll K H vs ds → DpAll K H vs (NestedKey.datas ds)
  | [], _, h => by cases h; simp only [NestedKey.datas]; exact .nil
  | d :: ds, _, h => by
    cases h with
    | cons h1 h2 => simp only [NestedKey.datas]; exact .cons (Dn.dp d _ h1) (DnAll.dp ds _ h2)
end
mutual
theorem Dn.lay {K : PySem.W.Frag} {H : Hp} : ∀ (d : ND) (v : V), Dn K H v d → d.data.canLay0 = true
  | .none, _, _ => by simp [NestedKey.data, PyData.canLay0]
  | .num i, _, _ => by simp [NestedKey.data, PyData.canLay0]
  | .text x, _, h => by
    cases h with
    | str _ ok => simp only [NestedKey.data, PyData.canLay0]; exact ok
  | .tup ds, _, h => by
    cases h with
    | tup hs ha => simp only [NestedKey.data, PyData.canLay0]; exact DnAll.lay ds _ ha
theorem DnAll.lay {K : PySem.W.Frag} {H : Hp} : ∀ (ds : List ND) (vs : List V), DnAll K H vs ds → PyData.canLayAll0 (NestedKey.datas ds) = true
  | [], _, _ => by simp [NestedKey.datas, PyData.canLayAll0]
  | d :: ds, _, h => by
    cases h with
    | cons h1 h2 => simp only [NestedKey.datas, PyData.canLayAll0, Dn.lay d _ h1, DnAll.lay ds _ h2, Bool.and_self]
end
mutual
theorem dep_nd : ∀ d : ND, d.data.depth = d.depth
  | .none => by simp [NestedKey.data, NestedKey.depth, PyData.depth]
  | .num i => by simp [NestedKey.data, NestedKey.depth, PyData.depth]
  | .text x => by simp [NestedKey.data, NestedKey.depth, PyData.depth]
  | .tup ds => by
    have h := dep_nds ds
    simp only [NestedKey.data, NestedKey.depth, PyData.depth]
    omega
theorem dep_nds : ∀ ds : List ND, PyData.depthAll (NestedKey.datas ds) = NestedKey.depthAll ds
  | [] => by simp [NestedKey.datas, NestedKey.depthAll, PyData.depthAll]
  | d :: ds => by simp only [NestedKey.datas, NestedKey.depthAll, PyData.depthAll, dep_nd d, dep_nds ds]
end
theorem Dn.shaped {K : PySem.W.Frag} {H : Hp} {d : ND} {v : V} (r : Dn K H v d) (h : d.depth ≤ 64) : SeqAt.shaped d.data = true := by
  show (d.data.canLay0 && decide (d.data.depth ≤ 64)) = true
  rw [Dn.lay d v r, dep_nd, decide_eq_true h]
  rfl
theorem DnAll.shaped {K : PySem.W.Frag} {H : Hp} {ds : List ND} {vs : List V} (r : DnAll K H vs ds) (h : NestedKey.depthAll ds < 64) : SeqAt.shaped (.list (NestedKey.datas ds)) = true := by
  have h2 := dep_nds ds
  have h3 : PyData.depth (.list (NestedKey.datas ds)) ≤ 64 := by
    simp only [PyData.depth]
    omega
  show (PyData.canLay0 (.list (NestedKey.datas ds)) && decide (PyData.depth (.list (NestedKey.datas ds)) ≤ 64)) = true
  rw [decide_eq_true h3, Bool.and_true]
  simp only [PyData.canLay0]
  exact DnAll.lay ds vs r
mutual
theorem eqv_nd : ∀ x y : ND, PyData.eqv x.data y.data = NestedKey.beq x y
  | .none, y => by cases y <;> simp [NestedKey.data, NestedKey.beq, PyData.eqv]
  | .num i, y => by cases y <;> simp [NestedKey.data, NestedKey.beq, PyData.eqv, Bool.beq_eq_decide_eq] <;> try rfl
  | .text x, y => by cases y <;> simp [NestedKey.data, NestedKey.beq, PyData.eqv, Bool.beq_eq_decide_eq] <;> try rfl
  | .tup xs, y => by
    cases y with
    | tup ys => simp only [NestedKey.data, NestedKey.beq, PyData.eqv]; exact eqv_nds xs ys
    | _ => simp [NestedKey.data, NestedKey.beq, PyData.eqv]
theorem eqv_nds : ∀ xs ys : List ND, PyData.eqvAll (NestedKey.datas xs) (NestedKey.datas ys) = NestedKey.beqAll xs ys
  | [], [] => by simp [NestedKey.datas, NestedKey.beqAll, PyData.eqvAll]
  | [], _ :: _ => by simp [NestedKey.datas, NestedKey.beqAll, PyData.eqvAll]
  | _ :: _, [] => by simp [NestedKey.datas, NestedKey.beqAll, PyData.eqvAll]
  | x :: xs, y :: ys => by simp only [NestedKey.datas, NestedKey.beqAll, PyData.eqvAll, eqv_nd x y, eqv_nds xs ys]
end
theorem eqv_dec (x y : ND) : PyData.eqv x.data y.data = decide (x = y) := by rw [eqv_nd, NestedKey.decide_eq]
section
variable {X : Cx} {pins : List (Addr × Obj)} {σ : L2.St} {H : Hp} {s : Shared}
mutual
theorem Dn.at (I : Inv X pins σ H s) : ∀ (d : ND) (v : V) (u : Value), Dn X.K H v d → RelV v u → NestedIs s.heap d u
  | .none, _, _, h, r => by cases h; cases r; exact .none
  | .num i, _, _, h, r => by
    cases h
    obtain ⟨t, rfl⟩ := r
    exact .int i t
  | .text x, _, _, h, r => by
    cases h
    obtain ⟨t, rfl⟩ := r
    exact .text x t
  | .tup ds, _, _, h, r => by
    cases h with
    | tup hs ha =>
      cases r
      obtain ⟨its, rv, ⟨o, ho, hc, n, hd⟩, _⟩ := I.tuple hs
      exact .tup ho hc hd (by simpa using DnAll.at I ds _ its ha rv)
theorem DnAll.at (I : Inv X pins σ H s) : ∀ (ds : List ND) (vs : List V) (us : List Value), DnAll X.K H vs ds → Vals vs us → NestedAll s.heap ds us
  | [], _, _, h, r => by cases h; cases r; exact .nil
  | d :: ds, _, _, h, r => by
    cases h with
    | cons h1 h2 =>
      cases r with
      | cons r1 r2 => exact .cons (Dn.at I d _ _ h1 r1) (DnAll.at I ds _ _ h2 r2)
end
/-- a value is one datum -/
theorem Dn.one (I : Inv X pins σ H s) {d e : ND} {v : V} {u : Value} (r : RelV v u) (h1 : Dn X.K H v d) (h2 : Dn X.K H v e) : d = e := NestedIs.inj _ _ _ (Dn.at I d v u h1 r) (Dn.at I e v u h2 r)
end
/-! ### sorted(xs), xs a list of nested data -/
def rSortN (K : PySem.W.Frag) : List V → Hp → VK → Prop := fun vs H Q => ∃ (a : Addr) (xs : List V) (ds : List ND), vs = [V.ref a] ∧ SqL K H a xs ∧ (∀ x ∈ xs, ∃ d ∈ ds, Dn K H x d) ∧ Srtb ds ∧
  ∀ (ys : List V) (p : Addr), ys.Perm xs → ys.Pairwise (fun x y => ∀ d e, Dn K H x d → Dn K H y e → ltD e d = false) → H p = none → Q (.ref p) (upd H p (.lst ys))
section
variable {X : Cx}
theorem cr_sortN (hu : X.A.units + 43 < cLine) : CallR X (.builtin "sorted") (rSortN X.K) := by
  intro pins s σ H vs us Q I r h
  obtain ⟨a, xs, ds, rfl, hs, hx, S, q⟩ := h
  obtain ⟨its, rv, hl, hz⟩ := I.list hs
  rw [Vals.ref1 r]
  have isref : ∀ x ∈ xs, ∃ t, x = V.ref t := fun x m => by
    obtain ⟨d, hd, q1⟩ := hx x m
    obtain ⟨y, r1, e⟩ := S.tup d hd
    subst e
    cases q1 with
    | tup _ _ => exact ⟨_, rfl⟩
  obtain ⟨e1, e2⟩ := bkV_refs rv isref
  have at_ : ∀ (u : Value), u ∈ its → ∃ d ∈ ds, NestedIs s.heap d u := fun u hm => by
    obtain ⟨t, rfl⟩ := e2 u hm
    have hm2 : V.ref t ∈ xs := by
      rw [e1]
      exact List.mem_map.mpr ⟨_, hm, rfl⟩
    obtain ⟨d, hd, q1⟩ := hx _ hm2
    exact ⟨d, hd, Dn.at I d _ _ q1 rfl⟩
  refine sorted_nd S hl.isList (by rw [← rv.length]; exact hz) at_ hu fun h' p out hp hs2 hk hge hat => ?_
  obtain ⟨n, he'⟩ := hat
  have h3 : ∀ u ∈ out, ∃ a, u = Value.ref a := fun u hm => e2 u (hp.mem_iff.mp hm)
  have hpm : (out.map bkV).Perm xs := by
    rw [e1]
    exact hp.map bkV
  have hlen : (out.map bkV).length ≤ sizeLine := by
    rw [hpm.length_eq]
    exact hz
  refine ⟨.ref p, upd H p (.lst (out.map bkV)), I.laid (t' := s.toks) hk hge ⟨hlen, out, n, bkV_vals h3, he'⟩, rfl, q _ _ hpm ?_ (I.hok.fresh hge)⟩
  rw [List.pairwise_map]
  refine List.Pairwise.imp_of_mem (fun {u v} hu1 hv1 huv d e hd he => ?_) hs2
  obtain ⟨t, rfl⟩ := h3 u hu1
  obtain ⟨t', rfl⟩ := h3 v hv1
  rw [datOf_eq (Dn.at I d _ _ hd rfl), datOf_eq (Dn.at I e _ _ he rfl)] at huv
  exact huv
end
/-! ### sets of nested data -/
structure SetN0 (w : World) (h : Heap) (a : Addr) (L : List (Addr × ND)) : Prop where
  ex : ∃ (es : Array (Int × Value)) (ep : Nat) (t : SetTable), (∃ o, h.get? a = some o ∧ o.ExactSet ∧ o.data = .set es ep t) ∧ es.toList = rowsN w L ∧ TabOk t (L.map fun p => hN w p.2) ∧ (L.map (·.2)).Nodup ∧
    (w.params.followText "set-order" = true ∨ t.led = true) ∧ L.length * 5 < t.mask * 3 ∧ L.length < 64
def SetNO (w : World) (a : Addr) (L : List (Addr × ND)) : HO := .ext fun h => SetN0 w h a L
theorem SetN.t0 {w : World} {h : Heap} {a : Addr} {L : List (Addr × ND)} {es : Array (Int × Value)} {ep : Nat} {t : SetTable} (R : SetN w h a L es ep t) : SetN0 w h a L :=
  ⟨es, ep, t, R.ob, R.rows, R.tab, R.nd, R.led, R.room, R.few⟩
theorem SetN0.full {w : World} {h : Heap} {a : Addr} {L : List (Addr × ND)} (R : SetN0 w h a L) (ht : ∀ p ∈ L, NestedIs h p.2 (.ref p.1)) : ∃ es ep t, SetN w h a L es ep t := by
  obtain ⟨es, ep, t, h1, h2, h3, h4, h6, h7, h8⟩ := R.ex
  exact ⟨es, ep, t, h1, h2, h3, h4, ht, h6, h7, h8⟩
theorem setNO_new {P : Program} {w : World} {H : Hp} {h : Heap} {a : Addr} {L : List (Addr × ND)} (R : SetN0 w h a L) : ObjOk P w H h a (SetNO w a L) := by
  have ⟨es, ep, t, ⟨o, ho, r⟩, q⟩ := R.ex
  refine ⟨R, ⟨o, ho⟩, fun h1 h2 p k => ?_⟩
  have ⟨es', ep', t', ⟨o', ho', r'⟩, q'⟩ := SetN0.ex p
  exact ⟨es', ep', t', ⟨o', k o' ho', r'⟩, q'⟩
theorem refsN_of_vals : ∀ {ks : List (Addr × ND)} {us : List Value}, Vals (ks.map fun p => V.ref p.1) us → us = ks.map fun p => Value.ref p.1
  | [], _, .nil => rfl
  | p :: ks, _, .cons r t => by
    cases r
    rw [refsN_of_vals t] <;> rfl
theorem valsN_of_refs : ∀ (ks : List (Addr × ND)), Vals (ks.map fun p => V.ref p.1) (ks.map fun p => Value.ref p.1)
  | [] => .nil
  | p :: ks => .cons rfl (valsN_of_refs ks)
section
variable {X : Cx}
/-- set(t), t a tuple of nested data -/
def rSetN (K : PySem.W.Frag) (w : World) : List V → Hp → VK → Prop := fun xs H Q => ∃ (l : Addr) (ks : List (Addr × ND)), xs = [V.ref l] ∧ SqT K H l (ks.map fun p => V.ref p.1) ∧ (∀ p ∈ ks, Dn K H (.ref p.1) p.2) ∧ Shal ks ∧ ks.length < 64 ∧
  ∀ a L, H a = none → (∀ p ∈ L, p ∈ ks) → (∀ p ∈ ks, p.2 ∈ L.map (·.2)) → Q (.ref a) (upd H a (SetNO w a L))
theorem cr_setN (hc : X.calm = true) (hu : X.A.units + 64 < cLine) : CallR X (.type "set") (rSetN X.K X.w) := by
  intro pins s σ H xs us Q I r h
  obtain ⟨l, ks, rfl, hl, hk, hsh, hf, q⟩ := h
  rw [Vals.ref1 r]
  obtain ⟨its, rv, pl, hz⟩ := I.tuple hl
  have hn : H s.heap.objs.size = none := I.hok.fresh (Nat.le_refl _)
  refine call_setN (P := X.prog) (w := X.w) ks (I.ok.hd hc) (show s.heap.IsTuple l its.toArray from pl) (by simpa using refsN_of_vals rv) (fun p hp => Dn.at I _ _ _ (hk p hp) rfl) hsh hf (by omega) fun h' tk L es ep t R g k => ?_
  refine ⟨.ref s.heap.objs.size, upd H s.heap.objs.size (SetNO X.w s.heap.objs.size L), I.laid (t' := tk) k (Nat.le_refl _) (setNO_new R.t0), rfl, q _ L hn (fun p hp => ?_) fun p hp => ?_⟩
  · exact List.mem_of_mem_take (g.sub p hp)
  · exact g.all p (by rw [List.take_length]; exact hp)
/-- sorted(set) -/
def rSortedSN (K : PySem.W.Frag) (w : World) : List V → Hp → VK → Prop := fun vs H Q => ∃ (a : Addr) (L : List (Addr × ND)), vs = [V.ref a] ∧ H a = some (SetNO w a L) ∧ (∀ p ∈ L, Dn K H (.ref p.1) p.2) ∧ Srtb (L.map (·.2)) ∧
  ∀ (L' : List (Addr × ND)) (p : Addr), L'.Perm L → (L'.map (·.2)).Pairwise (fun x y => ltD x y = true) → H p = none → Q (.ref p) (upd H p (.lst (L'.map fun q => V.ref q.1)))
theorem cr_sortedSN (hc : X.calm = true) (hu : X.A.units + 60 < cLine) : CallR X (.builtin "sorted") (rSortedSN X.K X.w) := by
  intro pins s σ H vs us Q I r h
  obtain ⟨a, L, rfl, ha, hk, S, q⟩ := h
  have R0 : SetN0 X.w s.heap a L := (I.hok a _ ha).1
  obtain ⟨es, ep, t, R⟩ := R0.full fun p hp => Dn.at I _ _ _ (hk p hp) rfl
  rw [Vals.ref1 r]
  refine sorted_setN R S (I.ok.hd hc) hu fun s' p c L' k g o hp hg pm pw => ?_
  have hfew : L'.length < 64 := by rw [pm.length_eq]; exact R.few
  have hlen : (L'.map fun q => V.ref q.1).length ≤ sizeLine := by rw [List.length_map, sizeLine_eq]; omega
  have hn : H p = none := I.hok.fresh hp
  have J : Inv X pins σ (upd H p (.lst (L'.map fun q => V.ref q.1))) { s with heap := s'.heap, gens := s'.gens, drawn := s'.drawn, toks := s'.toks } :=
    I.call (ch := []) (Un.laid k hp hn) (I.hok.laid k hp ⟨hlen, _, c, valsN_of_refs L', hg⟩) (by rw [g]; exact I.bare) (fun _ z => nomatch z)
  have e : s' = { s with heap := s'.heap, gens := s'.gens, drawn := s'.drawn, toks := s'.toks } := by
    cases s'
    cases s
    cases o
    rfl
  rw [e]
  exact ⟨.ref p, _, J, rfl, q L' p pm pw hn⟩
end
end TC

namespace TC
open PySem PySem.Spec PyProof.Rows L2
/-! ### sayings -/
inductive Op3 | and | or | iff
  deriving DecidableEq
def Op3.name : Op3 → Str
  | .and => "and"
  | .or => "or"
  | .iff => "if"
inductive Say
  | say (n : Str)
  | not (a : Say)
  | bin (o : Op3) (a b : Say)
namespace Say
def size : Say → Nat
  | .say _ => 1
  | .not a => a.size + 1
  | .bin _ a b => a.size + b.size + 1
def dep : Say → Nat
  | .say _ => 1
  | .not a => a.dep + 1
  | .bin _ a b => max a.dep b.dep + 1
def nd : Say → ND
  | .say n => .tup [.text "say", .text n]
  | .not a => .tup [.text "not", a.nd]
  | .bin o a b => .tup [.text o.name, a.nd, b.nd]
/-- a part -/
def Sub (P : Say) : Say → Prop
  | .say n => P = .say n
  | .not a => P = .not a ∨ Sub P a
  | .bin o a b => P = .bin o a b ∨ Sub P a ∨ Sub P b
/-- a part that is less -/
def Less (P : Say) : Say → Prop
  | .say _ => False
  | .not a => Sub P a
  | .bin _ a b => Sub P a ∨ Sub P b
theorem Sub.refl : ∀ S : Say, Sub S S
  | .say _ => rfl
  | .not _ => .inl rfl
  | .bin _ _ _ => .inl rfl
theorem Less.sub {P : Say} : ∀ {S : Say}, Less P S → Sub P S
  | .not _, h => .inr h
  | .bin _ _ _, h => .inr h
theorem Sub.cases {P : Say} : ∀ {S : Say}, Sub P S → P = S ∨ Less P S
  | .say _, h => .inl h
  | .not _, h => h
  | .bin _ _ _, h => h
theorem Sub.trans {P Q : Say} (h : Sub P Q) : ∀ {S : Say}, Sub Q S → Sub P S
  | .say n, q => by
    have e : Q = .say n := q
    rw [e] at h
    exact h
  | .not a, q => by
    rcases q with e | q
    · rw [e] at h; exact h
    · exact .inr (Sub.trans h q)
  | .bin o a b, q => by
    rcases q with e | q | q
    · rw [e] at h; exact h
    · exact .inr (.inl (Sub.trans h q))
    · exact .inr (.inr (Sub.trans h q))
theorem Sub.size {P : Say} : ∀ {S : Say}, Sub P S → P.size ≤ S.size
  | .say n, q => by rw [show P = .say n from q] <;> exact Nat.le_refl _
  | .not a, q => by
    rcases q with e | q
    · rw [e] <;> exact Nat.le_refl _
    · have := Sub.size q
      show P.size ≤ a.size + 1
      omega
  | .bin o a b, q => by
    rcases q with e | q | q
    · rw [e] <;> exact Nat.le_refl _
    · have := Sub.size q
      show P.size ≤ a.size + b.size + 1
      omega
    · have := Sub.size q
      show P.size ≤ a.size + b.size + 1
      omega
theorem size_pos : ∀ S : Say, 1 ≤ S.size
  | .say _ => Nat.le_refl _
  | .not a => by show 1 ≤ a.size + 1; omega
  | .bin _ a b => by show 1 ≤ a.size + b.size + 1; omega
theorem dep_le : ∀ S : Say, S.dep ≤ S.size
  | .say _ => Nat.le_refl _
  | .not a => by
    have := dep_le a
    show a.dep + 1 ≤ a.size + 1
    omega
  | .bin _ a b => by
    have h1 := dep_le a
    have h2 := dep_le b
    show max a.dep b.dep + 1 ≤ a.size + b.size + 1
    omega
theorem nd_dep : ∀ S : Say, S.nd.depth = S.dep
  | .say _ => by simp [nd, dep, NestedKey.depth, NestedKey.depthAll]
  | .not a => by
    have := nd_dep a
    simp [nd, dep, NestedKey.depth, NestedKey.depthAll, this]
  | .bin _ a b => by
    have h1 := nd_dep a
    have h2 := nd_dep b
    simp [nd, dep, NestedKey.depth, NestedKey.depthAll, h1, h2]
theorem name_inj : ∀ o p : Op3, o.name = p.name → o = p := by
  intro o p
  cases o <;> cases p <;> first | (intro _; rfl) | (intro h; exact absurd h (by decide +kernel))
theorem name_not (o : Op3) : o.name ≠ ("not" : Str) := by cases o <;> decide +kernel
theorem name_say (o : Op3) : o.name ≠ ("say" : Str) := by cases o <;> decide +kernel
theorem say_not : ("say" : Str) ≠ ("not" : Str) := by decide +kernel
theorem okTxt {x y : Str} {xs ys : List ND} (h : x ≠ y) : okD (.tup (.text x :: xs)) (.tup (.text y :: ys)) = true := by
  rw [okD_tup, okL_ne (fun e => h (by injection e))]
  rfl
theorem okTup {x : Str} {xs ys : List ND} : okD (.tup (.text x :: xs)) (.tup (.text x :: ys)) = okL xs ys := by rw [okD_tup, okL_same]
theorem okCons {x y : ND} {xs ys : List ND} (h : x ≠ y → okD x y = true) (h2 : x = y → okL xs ys = true) : okL (x :: xs) (y :: ys) = true := by
  by_cases e : x = y
  · subst e
    rw [okL_same]
    exact h2 rfl
  · rw [okL_ne e]
    exact h e
/-- any two sayings are ordered -/
theorem nd_ok : ∀ a b : Say, okD a.nd b.nd = true
  | .say n, .say m => by
    show okD (.tup [.text "say", .text n]) (.tup [.text "say", .text m]) = true
    rw [okTup]
    exact okCons (fun _ => rfl) fun _ => rfl
  | .say n, .not b => okTxt say_not
  | .say n, .bin o b c => okTxt fun e => name_say o e.symm
  | .not a, .say m => okTxt fun e => say_not e.symm
  | .not a, .not b => by
    show okD (.tup [.text "not", a.nd]) (.tup [.text "not", b.nd]) = true
    rw [okTup]
    exact okCons (fun _ => nd_ok a b) fun _ => rfl
  | .not a, .bin o b c => okTxt fun e => name_not o e.symm
  | .bin o a c, .say m => okTxt (name_say o)
  | .bin o a c, .not b => okTxt (name_not o)
  | .bin o a c, .bin p b d => by
    by_cases e : o = p
    · subst e
      show okD (.tup [.text o.name, a.nd, c.nd]) (.tup [.text o.name, b.nd, d.nd]) = true
      rw [okTup]
      exact okCons (fun _ => nd_ok a b) fun _ => okCons (fun _ => nd_ok c d) fun _ => rfl
    · exact okTxt fun e2 => e (name_inj _ _ e2)
theorem nd_inj : ∀ a b : Say, a.nd = b.nd → a = b
  | .say n, .say m, h => by
    simp only [nd, NestedKey.tup.injEq, List.cons.injEq, NestedKey.text.injEq, and_true, true_and] at h
    rw [h]
  | .say n, .not b, h => by
    simp only [nd, NestedKey.tup.injEq, List.cons.injEq, NestedKey.text.injEq] at h
    exact absurd h.1 say_not
  | .say n, .bin o b c, h => by
    simp only [nd, NestedKey.tup.injEq, List.cons.injEq, NestedKey.text.injEq] at h
    exact absurd h.1.symm (name_say o)
  | .not a, .say m, h => by
    simp only [nd, NestedKey.tup.injEq, List.cons.injEq, NestedKey.text.injEq] at h
    exact absurd h.1.symm say_not
  | .not a, .not b, h => by
    simp only [nd, NestedKey.tup.injEq, List.cons.injEq, NestedKey.text.injEq, and_true, true_and] at h
    rw [nd_inj a b h]
  | .not a, .bin o b c, h => by
    simp only [nd, NestedKey.tup.injEq, List.cons.injEq, NestedKey.text.injEq] at h
    exact absurd h.1.symm (name_not o)
  | .bin o a c, .say m, h => by
    simp only [nd, NestedKey.tup.injEq, List.cons.injEq, NestedKey.text.injEq] at h
    exact absurd h.1 (name_say o)
  | .bin o a c, .not b, h => by
    simp only [nd, NestedKey.tup.injEq, List.cons.injEq, NestedKey.text.injEq] at h
    exact absurd h.1 (name_not o)
  | .bin o a c, .bin p b d, h => by
    simp only [nd, NestedKey.tup.injEq, List.cons.injEq, NestedKey.text.injEq, and_true] at h
    rw [name_inj _ _ h.1, nd_inj a b h.2.1, nd_inj c d h.2.2]
end Say
/-- lists of sayings may be sorted -/
theorem srtb_say {Ss : List Say} (h : ∀ S ∈ Ss, S.dep ≤ 40) : Srtb (Ss.map Say.nd) where
  tup := fun d hd => by
    obtain ⟨S, _, rfl⟩ := List.mem_map.mp hd
    cases S with
    | say n => exact ⟨_, _, rfl⟩
    | not a => exact ⟨_, _, rfl⟩
    | bin o a b => exact ⟨_, _, rfl⟩
  ok := fun d hd e he _ => by
    obtain ⟨S, _, rfl⟩ := List.mem_map.mp hd
    obtain ⟨S', _, rfl⟩ := List.mem_map.mp he
    exact Say.nd_ok S S'
  dep := fun d hd => by
    obtain ⟨S, hS, rfl⟩ := List.mem_map.mp hd
    rw [Say.nd_dep]
    exact h S hS
  fst := .inl fun d hd => by
    obtain ⟨S, _, rfl⟩ := List.mem_map.mp hd
    cases S with
    | say n => exact ⟨_, _, rfl⟩
    | not a => exact ⟨_, _, rfl⟩
    | bin o a b => exact ⟨_, _, rfl⟩
theorem ok_name (o : Op3) : PyData.strOk o.name = true := by cases o <;> decide +kernel
section
variable {K : PySem.W.Frag} {H : Hp}
theorem Dn.tup2 {v : V} {d e : ND} (h : Dn K H v (.tup [d, e])) : ∃ a x y, v = .ref a ∧ SqT K H a [x, y] ∧ Dn K H x d ∧ Dn K H y e := by
  cases h with
  | tup hs ha =>
    cases ha with
    | cons h1 t =>
      cases t with
      | cons h2 t =>
        cases t
        exact ⟨_, _, _, rfl, hs, h1, h2⟩
theorem Dn.tup3 {v : V} {d e f : ND} (h : Dn K H v (.tup [d, e, f])) : ∃ a x y z, v = .ref a ∧ SqT K H a [x, y, z] ∧ Dn K H x d ∧ Dn K H y e ∧ Dn K H z f := by
  cases h with
  | tup hs ha =>
    cases ha with
    | cons h1 t =>
      cases t with
      | cons h2 t =>
        cases t with
        | cons h3 t =>
          cases t
          exact ⟨_, _, _, _, rfl, hs, h1, h2, h3⟩
theorem Dn.text {v : V} {x : Str} (h : Dn K H v (.text x)) : v = .str x ∧ PyData.strOk x = true := by
  cases h with
  | str _ ok => exact ⟨rfl, ok⟩
theorem sa_say {v : V} {n : Str} (h : Dn K H v (Say.nd (.say n))) : ∃ a, v = .ref a ∧ SqT K H a [.str "say", .str n] ∧ PyData.strOk n = true := by
  obtain ⟨a, x, y, e, hs, h1, h2⟩ := Dn.tup2 h
  obtain ⟨e1, _⟩ := h1.text
  obtain ⟨e2, o2⟩ := h2.text
  subst e1 e2
  exact ⟨a, e, hs, o2⟩
theorem sa_not {v : V} {A : Say} (h : Dn K H v (Say.nd (.not A))) : ∃ a x, v = .ref a ∧ SqT K H a [.str "not", x] ∧ Dn K H x A.nd := by
  obtain ⟨a, x, y, e, hs, h1, h2⟩ := Dn.tup2 h
  obtain ⟨e1, _⟩ := h1.text
  subst e1
  exact ⟨a, _, e, hs, h2⟩
theorem sa_bin {v : V} {o : Op3} {A B : Say} (h : Dn K H v (Say.nd (.bin o A B))) : ∃ a x y, v = .ref a ∧ SqT K H a [.str o.name, x, y] ∧ Dn K H x A.nd ∧ Dn K H y B.nd := by
  obtain ⟨a, x, y, z, e, hs, h1, h2, h3⟩ := Dn.tup3 h
  obtain ⟨e1, _⟩ := h1.text
  subst e1
  exact ⟨a, _, _, e, hs, h2, h3⟩
theorem mk_say {a : Addr} {n : Str} (h : SqT K H a [.str "say", .str n]) (o : PyData.strOk n = true) : Dn K H (.ref a) (Say.nd (.say n)) := .tup h (.cons (.str _ (by decide +kernel)) (.cons (.str _ o) .nil))
theorem mk_not {a : Addr} {x : V} {A : Say} (h : SqT K H a [.str "not", x]) (hx : Dn K H x A.nd) : Dn K H (.ref a) (Say.nd (.not A)) := .tup h (.cons (.str _ (by decide +kernel)) (.cons hx .nil))
theorem mk_bin {a : Addr} {x y : V} {o : Op3} {A B : Say} (h : SqT K H a [.str o.name, x, y]) (hx : Dn K H x A.nd) (hy : Dn K H y B.nd) : Dn K H (.ref a) (Say.nd (.bin o A B)) := .tup h (.cons (.str _ (ok_name o)) (.cons hx (.cons hy .nil)))
theorem SqT.tyx {a : Addr} {xs : List V} (h : SqT K H a xs) : TyX K H (.ref a) (.type "tuple") := by
  rcases h with (h | ⟨o, h⟩) | ⟨o, its, n, hk, hc, _⟩
  · exact .base (.tup h)
  · exact .fTuple h
  · exact .kTuple hk hc
theorem SqL.tyx {a : Addr} {xs : List V} (h : SqL K H a xs) : TyX K H (.ref a) (.type "list") := by
  rcases h with (h | ⟨o, h⟩) | ⟨o, its, n, hk, hc, _⟩
  · exact .base (.lst h)
  · exact .base (.frz h)
  · exact .kList hk hc
theorem SqT.kon {a : Addr} {xs : List V} (h : SqT K (fun _ => none) a xs) : SqT K H a xs := by
  rcases h with (h | ⟨o, h⟩) | h
  · cases h
  · cases h
  · exact .inr h
end
theorem _root_.L2.Room.u65 {k : Nat} {A : Around} (r : Room k A) : A.units + 65 < cLine := by
  have := r.un
  omega
theorem _root_.L2.Room.u60 {k : Nat} {A : Around} (r : Room k A) : A.units + 60 < cLine := by
  have := r.units
  omega
theorem _root_.L2.Room.u43 {k : Nat} {A : Around} (r : Room k A) : A.units + 43 < cLine := by
  have := r.units
  omega
/-! ### comprehensions over zip -/
theorem lc_zipL {K : PySem.W.Frag} {a b : Addr} {xs ys : List V} {g : TG} {tt : TT} {te : TE} {vs : List Nat} {σ : L2.St} {H1 : Hp} {D : Addr} {Qd : Hp → Prop} (hlen : xs.length = ys.length) (Pv : Nat → Hp → Prop) (h0 : Pv 0 (upd H1 D (.lst [])))
    (hl : ∀ i H, i ≤ xs.length → Pv i H → SqL K H a xs ∧ SqL K H b ys)
    (hs : ∀ i x y T H, xs[i]? = some x → ys[i]? = some y → Pv i H → H T = none → g (.ref T) (wipe σ vs) (upd H T (.tup [x, y])) fun σ2 H2 => wipe σ2 vs = wipe σ vs ∧ tt σ2 H2 fun b H3 =>
      if b = true then te σ2 H3 fun y H4 => ∃ acc, H4 D = some (.lst acc) ∧ acc.length < sizeLine ∧ Pv (i + 1) (upd H4 D (.lst (acc ++ [y]))) else Pv (i + 1) H3) (hd : ∀ H, Pv xs.length H → Qd H) :
    ∃ W : Nat → Nat → Hp → Prop, (∃ m, W 0 m (upd H1 D (.lst []))) ∧ ∀ i m H, W i m H →
      ((Itz K a b).stop i H ∧ Qd H) ∨ ((Itz K a b).go i H ∧ ∃ Nx : Hp → Prop, (∀ H', Nx H' → ∃ m', m' < m ∧ W (i + 1) m' H') ∧ ∀ x H', (Itz K a b).yld i H x H' → g x (wipe σ vs) H' fun σ2 H2 => wipe σ2 vs = wipe σ vs ∧ tt σ2 H2 fun b H3 =>
        if b = true then te σ2 H3 fun y H4 => ∃ acc, H4 D = some (.lst acc) ∧ acc.length < sizeLine ∧ Nx (upd H4 D (.lst (acc ++ [y]))) else Nx H3) := by
  refine ⟨fun i m H => m = xs.length - i ∧ i ≤ xs.length ∧ Pv i H, ⟨xs.length, by simp, Nat.zero_le _, h0⟩, ?_⟩
  rintro i m H ⟨rfl, hi, p⟩
  obtain ⟨qx, qy⟩ := hl i H hi p
  by_cases hlt : i < xs.length
  · have hx : xs[i]? = some xs[i] := List.getElem?_eq_getElem hlt
    have hlt2 : i < ys.length := by omega
    have hy : ys[i]? = some ys[i] := List.getElem?_eq_getElem hlt2
    refine .inr ⟨⟨xs, ys, _, _, qx, qy, hx, hy⟩, Pv (i + 1), fun H' p' => ⟨xs.length - (i + 1), by omega, rfl, hlt, p'⟩, fun v H' y => ?_⟩
    obtain ⟨T, x', y', rfl, hT, rfl, f1, f2⟩ := y
    exact hs i x' y' T H (f1 xs qx) (f2 ys qy) p hT
  · have e : i = xs.length := by omega
    subst e
    exact .inl ⟨⟨xs, ys, qx, qy, Or.inl (Nat.le_refl _)⟩, hd H p⟩
theorem lc_zipT {K : PySem.W.Frag} {a b : Addr} {xs ys : List V} {g : TG} {tt : TT} {te : TE} {vs : List Nat} {σ : L2.St} {H1 : Hp} {D : Addr} {Qd : Hp → Prop} (hlen : xs.length = ys.length) (Pv : Nat → Hp → Prop) (h0 : Pv 0 (upd H1 D (.lst [])))
    (hl : ∀ i H, i ≤ xs.length → Pv i H → SqT K H a xs ∧ SqT K H b ys)
    (hs : ∀ i x y T H, xs[i]? = some x → ys[i]? = some y → Pv i H → H T = none → g (.ref T) (wipe σ vs) (upd H T (.tup [x, y])) fun σ2 H2 => wipe σ2 vs = wipe σ vs ∧ tt σ2 H2 fun b H3 =>
      if b = true then te σ2 H3 fun y H4 => ∃ acc, H4 D = some (.lst acc) ∧ acc.length < sizeLine ∧ Pv (i + 1) (upd H4 D (.lst (acc ++ [y]))) else Pv (i + 1) H3) (hd : ∀ H, Pv xs.length H → Qd H) :
    ∃ W : Nat → Nat → Hp → Prop, (∃ m, W 0 m (upd H1 D (.lst []))) ∧ ∀ i m H, W i m H →
      ((RZ.ItzT K a b).stop i H ∧ Qd H) ∨ ((RZ.ItzT K a b).go i H ∧ ∃ Nx : Hp → Prop, (∀ H', Nx H' → ∃ m', m' < m ∧ W (i + 1) m' H') ∧ ∀ x H', (RZ.ItzT K a b).yld i H x H' → g x (wipe σ vs) H' fun σ2 H2 => wipe σ2 vs = wipe σ vs ∧ tt σ2 H2 fun b H3 =>
        if b = true then te σ2 H3 fun y H4 => ∃ acc, H4 D = some (.lst acc) ∧ acc.length < sizeLine ∧ Nx (upd H4 D (.lst (acc ++ [y]))) else Nx H3) := by
  refine ⟨fun i m H => m = xs.length - i ∧ i ≤ xs.length ∧ Pv i H, ⟨xs.length, by simp, Nat.zero_le _, h0⟩, ?_⟩
  rintro i m H ⟨rfl, hi, p⟩
  obtain ⟨qx, qy⟩ := hl i H hi p
  by_cases hlt : i < xs.length
  · have hx : xs[i]? = some xs[i] := List.getElem?_eq_getElem hlt
    have hlt2 : i < ys.length := by omega
    have hy : ys[i]? = some ys[i] := List.getElem?_eq_getElem hlt2
    refine .inr ⟨⟨xs, ys, _, _, qx, qy, hx, hy⟩, Pv (i + 1), fun H' p' => ⟨xs.length - (i + 1), by omega, rfl, hlt, p'⟩, fun v H' y => ?_⟩
    obtain ⟨T, x', y', rfl, hT, rfl, f1, f2⟩ := y
    exact hs i x' y' T H (f1 xs qx) (f2 ys qy) p hT
  · have e : i = xs.length := by omega
    subst e
    exact .inl ⟨⟨xs, ys, qx, qy, Or.inl (Nat.le_refl _)⟩, hd H p⟩
end TC

namespace TC
open PySem PySem.Spec PyProof.Rows L2
def top (i : Nat) : Stmt := PySem.Challenge.pw_talkcourt_k22_replies.main.body.getD i (.Pass ⟨0, 0, 0, 0⟩)
abbrev s_doubts_of : Stmt := top 2
abbrev sc_doubts_of_N : List Str := ["saying"]
theorem sc_doubts_of : FnScope sc_doubts_of_N ["saying"] (defScope s_doubts_of) := ⟨rfl, rfl, rfl, by decide +kernel, rfl, by decide +kernel, by decide +kernel⟩
abbrev s_answers_to : Stmt := top 3
abbrev sc_answers_to_N : List Str := ["doubt", "word", "saying"]
theorem sc_answers_to : FnScope sc_answers_to_N ["doubt"] (defScope s_answers_to) := ⟨rfl, rfl, rfl, by decide +kernel, rfl, by decide +kernel, by decide +kernel⟩
abbrev s_said_by : Stmt := top 4
abbrev sc_said_by_N : List Str := ["doubt", "word", "saying"]
theorem sc_said_by : FnScope sc_said_by_N ["doubt"] (defScope s_said_by) := ⟨rfl, rfl, rfl, by decide +kernel, rfl, by decide +kernel, by decide +kernel⟩
abbrev s_told_by : Stmt := top 6
abbrev sc_told_by_N : List Str := ["move"]
theorem sc_told_by : FnScope sc_told_by_N ["move"] (defScope s_told_by) := ⟨rfl, rfl, rfl, by decide +kernel, rfl, by decide +kernel, by decide +kernel⟩
abbrev s_replies : Stmt := top 7
abbrev sc_replies_N : List Str := ["move", "found", "told", "word", "answer"]
theorem sc_replies : FnScope sc_replies_N ["move"] (defScope s_replies) := ⟨rfl, rfl, rfl, by decide +kernel, rfl, by decide +kernel, by decide +kernel⟩
abbrev s_law_deal : Stmt := top 9
abbrev sc_law_deal_N : List Str := ["_law_script", "_law_base", "_law_cell", "_law_cells", "_law_number"]
theorem sc_law_deal : FnScope sc_law_deal_N ["_law_script", "_law_base"] (defScope s_law_deal) := ⟨rfl, rfl, rfl, by decide +kernel, rfl, by decide +kernel, by decide +kernel⟩
abbrev s_law_draw : Stmt := top 10
abbrev sc_law_draw_N : List Str := ["_law_deal_here", "_law_many", "_law_number", "_law_one", "_law_other"]
theorem sc_law_draw : FnScope sc_law_draw_N ["_law_deal_here", "_law_many"] (defScope s_law_draw) := ⟨rfl, rfl, rfl, by decide +kernel, rfl, by decide +kernel, by decide +kernel⟩
abbrev s_law_names : Stmt := top 11
abbrev sc_law_names_N : List Str := ["_law_deal_here", "_law_many", "_law_letters", "_law_names_here", "_law_k", "_law_core", "_law_at", "_law_turn", "_law_step", "_law_name"]
theorem sc_law_names : FnScope sc_law_names_N ["_law_deal_here", "_law_many"] (defScope s_law_names) := ⟨rfl, rfl, rfl, by decide +kernel, rfl, by decide +kernel, by decide +kernel⟩
abbrev s_law_saying : Stmt := top 12
abbrev sc_law_saying_N : List Str := ["_law_deal_here", "_law_names_here", "_law_many", "_law_way", "_law_left", "_law_one"]
theorem sc_law_saying : FnScope sc_law_saying_N ["_law_deal_here", "_law_names_here", "_law_many"] (defScope s_law_saying) := ⟨rfl, rfl, rfl, by decide +kernel, rfl, by decide +kernel, by decide +kernel⟩
abbrev s_law_words : Stmt := top 13
abbrev sc_law_words_N : List Str := ["_law_saying_here"]
theorem sc_law_words : FnScope sc_law_words_N ["_law_saying_here"] (defScope s_law_words) := ⟨rfl, rfl, rfl, by decide +kernel, rfl, by decide +kernel, by decide +kernel⟩
abbrev s_law_answers : Stmt := top 14
abbrev sc_law_answers_N : List Str := ["_law_doubt", "_law_word", "_law_saying_here", "_law_some"]
theorem sc_law_answers : FnScope sc_law_answers_N ["_law_doubt"] (defScope s_law_answers) := ⟨rfl, rfl, rfl, by decide +kernel, rfl, by decide +kernel, by decide +kernel⟩
abbrev s_law_says : Stmt := top 15
abbrev sc_law_says_N : List Str := ["_law_move"]
theorem sc_law_says : FnScope sc_law_says_N ["_law_move"] (defScope s_law_says) := ⟨rfl, rfl, rfl, by decide +kernel, rfl, by decide +kernel, by decide +kernel⟩
abbrev s_law_replies : Stmt := top 16
abbrev sc_law_replies_N : List Str := ["_law_move", "_law_says_here", "_law_found", "_law_word", "_law_answer"]
theorem sc_law_replies : FnScope sc_law_replies_N ["_law_move"] (defScope s_law_replies) := ⟨rfl, rfl, rfl, by decide +kernel, rfl, by decide +kernel, by decide +kernel⟩
abbrev s_law_all_parts : Stmt := top 17
abbrev sc_law_all_parts_N : List Str := ["_law_saying_here", "_law_found", "_law_part", "_law_one"]
theorem sc_law_all_parts : FnScope sc_law_all_parts_N ["_law_saying_here"] (defScope s_law_all_parts) := ⟨rfl, rfl, rfl, by decide +kernel, rfl, by decide +kernel, by decide +kernel⟩
abbrev s_law_alike : Stmt := top 18
abbrev sc_law_alike_N : List Str := ["_law_found", "_law_due", "_law_one", "_law_other"]
theorem sc_law_alike : FnScope sc_law_alike_N ["_law_found", "_law_due"] (defScope s_law_alike) := ⟨rfl, rfl, rfl, by decide +kernel, rfl, by decide +kernel, by decide +kernel⟩
abbrev s_law_all_moves : Stmt := top 19
abbrev sc_law_all_moves_N : List Str := ["_law_saying_here", "_law_found", "_law_part", "_law_word", "_law_answer"]
theorem sc_law_all_moves : FnScope sc_law_all_moves_N ["_law_saying_here"] (defScope s_law_all_moves) := ⟨rfl, rfl, rfl, by decide +kernel, rfl, by decide +kernel, by decide +kernel⟩
abbrev s_law : Stmt := top 20
abbrev sc_law_N : List Str := ["_law_script", "_law_deal_here", "_law_saying_here", "_law_move", "_law_told", "_law_due", "_law_found"]
theorem sc_law : FnScope sc_law_N ["_law_script"] (defScope s_law) := ⟨rfl, rfl, rfl, by decide +kernel, rfl, by decide +kernel, by decide +kernel⟩
/-- the def st stands under its name -/
structure DefAt (K : PySem.W.Frag) (mg : Str → Option Value) (x : Str) (st : Stmt) (ps : List Str) : Prop where
  ex : ∃ f fd, Fun K x x st f fd ∧ mg x = some (.ref f) ∧ Binds K fd ps []
theorem DefAt.cal {P : Program} {w : World} {K : PySem.W.Frag} {mg : Str → Option Value} {base : Heap} {x : Str} {st : Stmt} {ps : List Str} {k : Nat} {sp : Sp} (D : DefAt K mg x st ps) (h : ∀ f fd, Fun K x x st f fd → FnOk P w K mg base CX0 k f fd ps sp) : C8.Cal P w K mg base k x sp [] := by
  obtain ⟨f, fd, F, m, b⟩ := D.ex
  exact ⟨f, fd, ps, [], h f fd F, m, F.kp, b, .nil⟩
def spLaw (K : PySem.W.Frag) : Sp := fun vs H Q _ => ∃ (a : Addr) (ns : List Int), vs = [.ref a] ∧ SqL K H a (ns.map V.int) ∧ ns.length ≤ 63 ∧ ∀ H', Q (.bl true) H'
/-! ### what the top leaves -/
structure Top (w : World) (K : PySem.W.Frag) (mg : Str → Option Value) : Prop where
  d_doubts_of : DefAt K mg "doubts_of" s_doubts_of ["saying"]
  d_answers_to : DefAt K mg "answers_to" s_answers_to ["doubt"]
  d_said_by : DefAt K mg "said_by" s_said_by ["doubt"]
  d_told_by : DefAt K mg "told_by" s_told_by ["move"]
  d_replies : DefAt K mg "replies" s_replies ["move"]
  d_law_deal : DefAt K mg "_law_deal" s_law_deal ["_law_script", "_law_base"]
  d_law_draw : DefAt K mg "_law_draw" s_law_draw ["_law_deal_here", "_law_many"]
  d_law_names : DefAt K mg "_law_names" s_law_names ["_law_deal_here", "_law_many"]
  d_law_saying : DefAt K mg "_law_saying" s_law_saying ["_law_deal_here", "_law_names_here", "_law_many"]
  d_law_words : DefAt K mg "_law_words" s_law_words ["_law_saying_here"]
  d_law_answers : DefAt K mg "_law_answers" s_law_answers ["_law_doubt"]
  d_law_says : DefAt K mg "_law_says" s_law_says ["_law_move"]
  d_law_replies : DefAt K mg "_law_replies" s_law_replies ["_law_move"]
  d_law_all_parts : DefAt K mg "_law_all_parts" s_law_all_parts ["_law_saying_here"]
  d_law_alike : DefAt K mg "_law_alike" s_law_alike ["_law_found", "_law_due"]
  d_law_all_moves : DefAt K mg "_law_all_moves" s_law_all_moves ["_law_saying_here"]
  d_law : DefAt K mg "law" s_law ["_law_script"]
  z_len : mg "len" = none
  z_max : mg "max" = none
  z_list : mg "list" = none
  z_reversed : mg "reversed" = none
  z_range : mg "range" = none
  z_sorted : mg "sorted" = none
  z_set : mg "set" = none
  z_isinstance : mg "isinstance" = none
  z_tuple : mg "tuple" = none
  z_str : mg "str" = none
  z_all : mg "all" = none
  z_zip : mg "zip" = none
  z_int : mg "int" = none
  g_WORDS : ∃ d, mg "WORDS" = some (.ref d) ∧ (∃ t, KDct K w d "say" (.ref t) ∧ SqT K (fun _ => none) t []) ∧ (∃ t, KDct K w d "not" (.ref t) ∧ SqT K (fun _ => none) t [.str "not"]) ∧ (∃ t, KDct K w d "and" (.ref t) ∧ SqT K (fun _ => none) t [.str "left", .str "right"]) ∧ (∃ t, KDct K w d "or" (.ref t) ∧ SqT K (fun _ => none) t [.str "which"]) ∧ (∃ t, KDct K w d "if" (.ref t) ∧ SqT K (fun _ => none) t [.str "if"])
/-! ### the deal -/
abbrev kSeed : Key := Sum.inr "seed"
abbrev kNum : Key := Sum.inr "number"
abbrev kLeft : Key := Sum.inr "left"
def dl (s n : Int) (l : Addr) : List (Key × V) := [(kSeed, .int s), (kNum, .int n), (kLeft, .ref l)]
theorem ks_n : ¬ Str.ofString "seed" = Str.ofString "number" := by decide +kernel
theorem ks_l : ¬ Str.ofString "seed" = Str.ofString "left" := by decide +kernel
theorem kn_s : ¬ Str.ofString "number" = Str.ofString "seed" := by decide +kernel
theorem kn_l : ¬ Str.ofString "number" = Str.ofString "left" := by decide +kernel
theorem kl_s : ¬ Str.ofString "left" = Str.ofString "seed" := by decide +kernel
theorem kl_n : ¬ Str.ofString "left" = Str.ofString "number" := by decide +kernel
theorem dl_seed (s n : Int) (l : Addr) : valV (dl s n l) kSeed = some (.int s) := by simp [valV, dl]
theorem dl_num (s n : Int) (l : Addr) : valV (dl s n l) kNum = some (.int n) := by simp [valV, dl, ks_n]
theorem dl_left (s n : Int) (l : Addr) : valV (dl s n l) kLeft = some (.ref l) := by simp [valV, dl, ks_l, kn_l]
theorem dl_putN (s n m : Int) (l : Addr) : putK (dl s n l) kNum (.int m) = dl s m l := by simp [putK, dl, ks_n, kl_n]
theorem dl_putS (s n m : Int) (l : Addr) : putK (dl s n l) kSeed (.int m) = dl m n l := by simp [putK, dl, kn_s, kl_s]
theorem dl_merge (s n : Int) (l : Addr) : mergeK [] (dl s n l) = dl s n l := by simp [mergeK, putK, dl, ks_n, ks_l, kn_l]
def DealIs (H : Hp) (d l : Addr) (s n : Int) (left : List Int) : Prop :=
  H d = some (.dK (dl s n l)) ∧ H l = some (.lst (left.map V.int)) ∧ 0 ≤ s ∧ s < 2147483647 ∧ 0 ≤ n ∧ (∀ c ∈ left, 0 ≤ c) ∧ left.length ≤ 63
theorem get_num {H : Hp} {d l : Addr} {s n : Int} (h : H d = some (.dK (dl s n l))) : DGet H d (.str "number") (some (.int n)) := by
  have q := DGet.k (k := kNum) h
  rw [dl_num] at q
  exact q
theorem get_left {H : Hp} {d l : Addr} {s n : Int} (h : H d = some (.dK (dl s n l))) : DGet H d (.str "left") (some (.ref l)) := by
  have q := DGet.k (k := kLeft) h
  rw [dl_left] at q
  exact q
theorem get_seed {H : Hp} {d l : Addr} {s n : Int} (h : H d = some (.dK (dl s n l))) : DGet H d (.str "seed") (some (.int s)) := by
  have q := DGet.k (k := kSeed) h
  rw [dl_seed] at q
  exact q
theorem put_num {H : Hp} {d l : Addr} {s n m : Int} (h : H d = some (.dK (dl s n l))) : DPut H d (.str "number") (.int m) (upd H d (.dK (dl s m l))) := by
  have q := DPut.k (k := kNum) (v := .int m) h (by show 3 < sizeLine; decide)
  rw [dl_putN] at q
  exact q
theorem put_seed {H : Hp} {d l : Addr} {s n m : Int} (h : H d = some (.dK (dl s n l))) : DPut H d (.str "seed") (.int m) (upd H d (.dK (dl m n l))) := by
  have q := DPut.k (k := kSeed) (v := .int m) h (by show 3 < sizeLine; decide)
  rw [dl_putS] at q
  exact q
/-- a deal stands at d, its list at l -/
def DealAt (H : Hp) (d l : Addr) : Prop := ∃ s n left, DealIs H d l s n left
/-- nothing but d, l has changed -/
def But (d l : Addr) (H H' : Hp) : Prop := ∀ b, b ≠ d → b ≠ l → H' b = H b
theorem But.refl (d l : Addr) (H : Hp) : But d l H H := fun _ _ _ => rfl
theorem But.upd1 {d l : Addr} {H H' : Hp} {o : HO} (h : But d l H H') : But d l H (upd H' d o) := fun b h1 h2 => by rw [upd_ne h1]; exact h b h1 h2
theorem But.upd2 {d l : Addr} {H H' : Hp} {o : HO} (h : But d l H H') : But d l H (upd H' l o) := fun b h1 h2 => by rw [upd_ne h2]; exact h b h1 h2
theorem But.trans {d l : Addr} {H H1 H2 : Hp} (a : But d l H H1) (b : But d l H1 H2) : But d l H H2 := fun c h1 h2 => (b c h1 h2).trans (a c h1 h2)
/-! ### what stays when the deal goes on -/
def Old (d l : Addr) (H H' : Hp) : Prop := ∀ b o, H b = some o → b ≠ d → b ≠ l → H' b = some o
theorem Old.but {d l : Addr} {H H' : Hp} (b : But d l H H') : Old d l H H' := fun c o h h1 h2 => by rw [b c h1 h2]; exact h
def spDraw : Sp := fun vs H Q _ => ∃ (d l : Addr) (m : Int), vs = [.ref d, .int m] ∧ DealAt H d l ∧ 1 ≤ m ∧ m < 1000000 ∧
  ∀ (r : Int) (H' : Hp), 0 ≤ r → r < m → DealAt H' d l → Old d l H H' → Q (.int r) H'
section
variable {P : Program} {w : World} {K : PySem.W.Frag} {mg : Str → Option Value} {base : Heap}
theorem ok_draw {f : Addr} {fd : FuncData} (F : Fun K "_law_draw" "_law_draw" s_law_draw f fd) (T : Top w K mg) : FnOk P w K mg base CX0 1 f fd ["_law_deal_here", "_law_many"] spDraw := by
  refine F.ok sc_law_draw (fun vs H Q E h => ?_) (fun cdv A outer s H vs Q E hr h => ?_)
  · obtain ⟨d, l, m, rfl, _⟩ := h
    rfl
  have hu := hu_of hr
  obtain ⟨d, l, m, rfl, ⟨sd, nm, left, hD⟩, h1, h2, q⟩ := h
  refine ⟨_, (C8.pss_cut (ps_while PassesOwn.never (PW.pt (pw_and (pt_cmpR op_eq (pe_dget hu (pv 0) pe_str (fun _ _ => rfl)) pe_int (nomark _)) (pw_and1 (pt_cmpR op_gt (pe_callB call_len_seq (by rfl) T.z_len PySem.boot_len (pa_cons (pe_dget hu (pv 0) pe_str (fun _ _ => rfl)) pa_nil)) pe_int (nomark _)))))
    (pss_one (ps_dput hu (pv 0) pe_str (pe_bm0 PySem.F.plainAttrs_list PySem.F.slot_list_pop PySem.F.type_list_pop mt_pop (pe_dget hu (pv 0) pe_str (fun _ _ => rfl))) rfl)))
  (pss_cons (ps_set (i := 2) sc_law_draw.nd rfl (Or.inl rfl) (pe_dget hu (pv 0) pe_str (fun _ _ => rfl)))
  (pss_cons (ps_if (pt_cmpR op_gt (pv 2) pe_int (nomark _))
    (pss_cons (ps_dput hu (pv 0) pe_str (pe_op op_fdiv (pv 2) (pv 1)) rfl)
    (pss_one (ps_ret (pe_op op_mod (pv 2) (pv 1)))))
    pss_nil)
  (pss_cons (ps_set (i := 3) sc_law_draw.nd rfl (Or.inl rfl) (pe_op op_mod (pe_op op_add (pe_op op_mul (pe_dget hu (pv 0) pe_str (fun _ _ => rfl)) pe_int) pe_int) pe_int))
  (pss_cons (ps_dput hu (pv 0) pe_str (pe_op op_mod (pe_op op_add (pe_op op_mul (pv 3) pe_int) pe_int) pe_int) rfl)
  (pss_cons (ps_set (i := 4) sc_law_draw.nd rfl (Or.inl rfl) (pe_op op_mod (pe_op op_mul (pe_dget hu (pv 0) pe_str (fun _ _ => rfl)) (pe_dget hu (pv 0) pe_str (fun _ _ => rfl))) pe_int))
  (pss_one (ps_ret (pe_op op_mod (pe_op op_add (pe_op op_mul (pe_op op_mod (pe_op op_mul (pv 3) (pv 3)) pe_int) pe_int) (pv 4)) (pv 1)))))))))), ?_⟩
  refine ⟨fun σ H' => σ = [some (.ref d), some (.int m), none, none, none] ∧ DealAt H' d l ∧ But d l H H', ?_, ?_⟩
  · refine ⟨fun k σ H' => σ = [some (.ref d), some (.int m), none, none, none] ∧ ∃ n left, k = left.length ∧ DealIs H' d l sd n left ∧ But d l H H', ⟨left.length, rfl, nm, left, rfl, hD, But.refl _ _ _⟩, ?_⟩
    rintro k σ H1 ⟨rfl, n, lf, rfl, D, B⟩
    obtain ⟨hd, hl, s0, s1, n0, c0, cl⟩ := id D
    have hdl : d ≠ l := ne_of hd hl (by intro z; cases z)
    refine ⟨_, rfl, d, _, rfl, get_num hd, rfl, _, rfl, ?_⟩
    refine ite2 (fun c => ?_) (fun c => ⟨rfl, ⟨sd, n, lf, D⟩, B⟩)
    have en : n = 0 := V.int.inj (of_decide_eq_true c)
    subst en
    refine ⟨_, rfl, d, _, rfl, get_left hd, l, _, rfl, .inl (SqL.of hl), _, _, rfl, rfl, _, rfl, ?_⟩
    refine ite2 (fun c => ?_) (fun c => ⟨rfl, ⟨sd, 0, lf, D⟩, B⟩)
    have c' : (0 : Int) < (((lf.map V.int).length : Nat) : Int) := of_decide_eq_true c
    rw [List.length_map] at c'
    have hx : (lf.map V.int)[(lf.map V.int).length - 1]? = some (.int lf[lf.length - 1]) := by
      rw [List.length_map, List.getElem?_map, List.getElem?_eq_getElem (by omega)] <;> rfl
    refine ⟨fun σ' H' => ∃ m', m' < lf.length ∧ _, fun _ _ q => q, ?_⟩
    refine ⟨_, rfl, d, _, rfl, get_left hd, .inl ⟨rfl, _, SqL.of hl⟩, l, _, _, rfl, rfl, hl, hx, _, rfl, d, _, rfl, put_num (by rw [upd_ne hdl]; exact hd), ?_⟩
    refine ⟨lf.dropLast.length, by rw [List.length_dropLast]; omega, rfl, lf[lf.length - 1], lf.dropLast, rfl, ⟨upd_same, ?_, s0, s1, c0 _ (List.getElem_mem _), fun x hx => c0 x (List.dropLast_subset _ hx), by rw [List.length_dropLast]; omega⟩, (B.upd2).upd1⟩
    rw [upd_ne (Ne.symm hdl), upd_same, List.map_dropLast]
  · rintro σ H1 ⟨rfl, ⟨sd, n, lf, D⟩, B⟩
    obtain ⟨hd, hl, s0, s1, n0, c0, cl⟩ := id D
    have hdl : d ≠ l := ne_of hd hl (by intro z; cases z)
    refine ⟨_, rfl, d, _, rfl, get_num hd, ?_⟩
    refine ⟨_, rfl, _, _, rfl, rfl, _, rfl, ?_⟩
    refine ite2 (fun c => ?_) (fun c => ?_)
    · have c' : 0 < n := of_decide_eq_true c
      refine ⟨_, rfl, _, rfl, _, _, rfl, rfl, ⟨by omega, by omega⟩, _, rfl, d, _, rfl, put_num hd, ?_⟩
      refine ⟨_, rfl, _, rfl, _, _, rfl, rfl, by omega, ?_⟩
      exact q _ _ (Int.emod_nonneg _ (by omega)) (Int.emod_lt_of_pos _ (by omega)) ⟨sd, n / m, lf, upd_same, by rw [upd_ne (Ne.symm hdl)]; exact hl, s0, s1, Int.ediv_nonneg n0 (by omega), c0, cl⟩ (Old.but B.upd1)
    · refine ⟨_, rfl, d, _, rfl, get_seed hd, _, _, rfl, rfl, .inr ⟨by decide, by decide⟩, _, _, rfl, rfl, _, _, rfl, rfl, (show (0 : Int) < 2147483647 by decide), ?_⟩
      refine ⟨_, rfl, _, _, rfl, rfl, .inr ⟨by decide, by decide⟩, _, _, rfl, rfl, _, _, rfl, rfl, (show (0 : Int) < 2147483399 by decide), _, rfl, d, _, rfl, put_seed hd, ?_⟩
      have hd2 : ∀ z, (upd H1 d (.dK (dl z n l))) d = some (.dK (dl z n l)) := fun _ => upd_same
      refine ⟨_, rfl, d, _, rfl, get_seed (hd2 _), _, rfl, d, _, rfl, get_seed (hd2 _), _, _, rfl, rfl, .inr ⟨by omega, by omega⟩, _, _, rfl, rfl, (show (0 : Int) < 2147483563 by decide), ?_⟩
      refine ⟨_, rfl, _, rfl, _, _, rfl, rfl, .inr ⟨by omega, by omega⟩, _, _, rfl, rfl, (show (0 : Int) < 2147483629 by decide), _, _, rfl, rfl, .inr ⟨by decide, by decide⟩, _, rfl, _, _, rfl, rfl, _, rfl, _, _, rfl, rfl, (by omega : (0 : Int) < m), ?_⟩
      refine q _ _ (Int.emod_nonneg _ (by omega)) (Int.emod_lt_of_pos _ (by omega)) ⟨_, n, lf, hd2 _, by rw [upd_ne (Ne.symm hdl)]; exact hl, by omega, by omega, n0, c0, cl⟩ (Old.but B.upd1)
def spDeal (K : PySem.W.Frag) : Sp := fun vs H Q _ => ∃ (a : Addr) (ns : List Int), vs = [.ref a, .int 0] ∧ SqL K H a (ns.map V.int) ∧ ns.length ≤ 63 ∧
  ∀ (d l : Addr) (H' : Hp), DealAt H' d l → Same H H' → H d = none → H l = none → Q (.ref d) H'
theorem cut_ints (ns : List Int) (i j : Option Int) : ∃ ms : List Int, cutV (ns.map V.int) i j = ms.map V.int ∧ ms.length ≤ ns.length := by
  refine ⟨(ns.drop (HT.sIx (ns.map V.int).length 0 i)).take (HT.sIx (ns.map V.int).length (ns.map V.int).length j - HT.sIx (ns.map V.int).length 0 i), ?_, ?_⟩
  · unfold cutV
    rw [List.map_take, List.map_drop]
  · rw [List.length_take, List.length_drop]
    omega
theorem same_up {H : Hp} {p : Addr} (h : H p = none) (o : HO) : Same H (upd H p o) := fun b u q => by rw [upd_ne (ne_of_none q h)]; exact q
theorem ok_deal {f : Addr} {fd : FuncData} (F : Fun K "_law_deal" "_law_deal" s_law_deal f fd) (T : Top w K mg) : FnOk P w K mg base CX0 1 f fd ["_law_script", "_law_base"] (spDeal K) := by
  refine F.ok sc_law_deal (fun vs H Q E h => ?_) (fun cdv A outer s H vs Q E hr h => ?_)
  · obtain ⟨a, ns, rfl, _⟩ := h
    rfl
  have hu := hu_of hr
  obtain ⟨a, ns, rfl, hS, h63, q⟩ := h
  refine ⟨_, (pss_cons (ps_setLc (i := 3) (own := [("_law_cell", 2)]) (g := gName 2) (tt := tYes) (by rfl) sc_law_deal.nd rfl rfl (sw_true rfl rfl rfl (by decide +kernel)) (pi_list (pe_slice sl_list (pv 0) (po_some (pv 1)) (po_some pe_int))) (blkOk_by (N := sc_law_deal_N) (sc := defScope s_law_deal) (by decide +kernel)) (fun _ _ _ _ _ => pg_name (i := 2) sc_law_deal.nd rfl (Or.inl rfl)) (fun _ _ _ _ _ => pts_nil) (fun _ _ _ _ _ => (pe_callB (call_max2 rfl) (by rfl) T.z_max (by decide +kernel) (pa_cons (pv 2) (pa_cons (pe_op op_sub pe_int (pv 2)) pa_nil)))))
  (pss_cons (ps_set (i := 4) sc_law_deal.nd rfl (Or.inl rfl) (pe_op op_add pe_int (pv 1)))
  (pss_cons (ps_for PassesOwn.never rfl (pi_list (pv 3)) (pg_name (i := 2) sc_law_deal.nd rfl (Or.inl rfl))
    (pss_one (ps_set (i := 4) sc_law_deal.nd rfl (Or.inl rfl) (pe_op op_mod (pe_op op_add (pe_op op_mul (pv 4) pe_int) (pe_op op_mod (pv 2) pe_int)) pe_int))))
  (pss_one (ps_ret (pe_disp (pps_cons pe_str (pv 4) (pps_cons pe_str pe_int (pps_cons pe_str (pe_listRev rfl (by rfl) T.z_list (by rfl) T.z_reversed (pe_lc (own := [("_law_cell", 2)]) (g := gName 2)  (by rfl) sc_law_deal.nd (pi_list (pv 3)) (blkOk_by (N := sc_law_deal_N) (sc := defScope s_law_deal) (by decide +kernel)) (fun _ _ _ _ _ => pg_name (i := 2) sc_law_deal.nd rfl (Or.inl rfl)) (fun _ _ _ _ _ => pts_one (pt_cmpR op_ge (pv 2) (pe_op op_pow pe_int pe_int) (nomark _))) (fun _ _ _ _ _ => (pv 2)))) pps_nil))) (by rfl) (by rfl) (fun z => by cases z) (by decide))))))), ?_⟩
  obtain ⟨ms, em, hm⟩ := cut_ints ns (some 0) (some 63)
  refine ⟨_, rfl, _, rfl, _, rfl, _, rfl, a, _, rfl, hS, fun p hp => ⟨p, rfl, ⟨_, SqL.of upd_same⟩, fun D hD => ?_⟩⟩
  rw [em] at hD ⊢
  have npD : p ≠ D := fun e => by rw [← e, upd_same] at hD; cases hD
  have hD0 : H D = none := by rw [upd_ne (Ne.symm npD)] at hD; exact hD
  refine lc_list (K := K) (a := p) (xs := ms.map V.int) (fun i H' => ∃ cs : List Int, H' D = some (.lst (cs.map V.int)) ∧ H' p = some (.lst (ms.map V.int)) ∧ Same H H' ∧ (∀ c ∈ cs, 0 ≤ c) ∧ cs.length ≤ i)
    ⟨[], upd_same, by rw [upd_ne npD]; exact upd_same, (same_up hp _).trans (same_up hD _), fun _ z => (by cases z), Nat.le_refl _⟩ (fun i H' _ z => SqL.of z.choose_spec.2.1) ?_ ?_
  · rintro i x H' hi ⟨cs, h1, h2, s1, c0, cl⟩
    have hil := (List.getElem?_eq_some_iff.mp hi).1
    rw [List.length_map] at hil
    rw [List.getElem?_map] at hi
    obtain ⟨z, hz, rfl⟩ := Option.map_eq_some_iff.mp hi
    refine ⟨rfl, ?_⟩
    refine ⟨_, rfl, _, rfl, _, _, rfl, rfl, _, _, rfl, cs.map V.int, h1, ?_, ?_⟩
    · rw [List.length_map]
      exact small1000 (by omega)
    · refine ⟨cs ++ [if 0 - z > z then 0 - z else z], by rw [upd_same, List.map_append]; rfl, by rw [upd_ne npD]; exact h2, ?_, ?_, ?_⟩
      · intro b u e
        by_cases hb : b = D
        · rw [hb, hD0] at e
          cases e
        · rw [upd_ne hb]
          exact s1 b u e
      · intro c hc
        rcases List.mem_append.mp hc with hc | hc
        · exact c0 c hc
        · rw [List.mem_singleton.mp hc]
          split <;> omega
      · rw [List.length_append, List.length_singleton]
        omega
  · rintro H1 ⟨cs, h1, h2, s1, c0, cl⟩
    rw [List.length_map] at cl
    refine ⟨_, rfl, _, _, rfl, rfl, _, rfl, D, rfl, ⟨_, SqL.of h1⟩, for_list (K := K) (a := D) (xs := cs.map V.int) (fun _ σ H' => H' = H1 ∧ ∃ (v : Option V) (z : Int), σ = [some (.ref a), some (.int 0), v, some (.ref D), some (.int z)] ∧ 0 ≤ z ∧ z < 2147483647)
      ⟨rfl, none, 7919 + 0, rfl, by decide, by decide⟩ (fun _ σ H' _ z => by rw [z.1]; exact SqL.of h1) ?_ ?_⟩
    · rintro i y σ H' hi ⟨rfl, v, z, rfl, z0, z1⟩
      rw [List.getElem?_map] at hi
      obtain ⟨c, hc, rfl⟩ := Option.map_eq_some_iff.mp hi
      refine ⟨_, rfl, _, _, rfl, rfl, .inr ⟨by decide, by decide⟩, _, rfl, _, _, rfl, rfl, (show (0 : Int) < 2147483629 by decide), _, _, rfl, rfl, _, _, rfl, rfl, (show (0 : Int) < 2147483647 by decide), ?_⟩
      exact ⟨rfl, _, _, rfl, Int.emod_nonneg _ (by decide), Int.emod_lt_of_pos _ (by decide)⟩
    · rintro σ H' ⟨rfl, v, z, rfl, z0, z1⟩
      intro d hd
      have nDd : D ≠ d := ne_of_none h1 hd
      have hd0 : H d = none := s1.free hd
      refine ⟨_, rfl, _, rfl, D, rfl, ⟨_, SqL.of (by rw [upd_ne nDd]; exact h1)⟩, fun D2 hD2 => ?_⟩
      have ndD2 : d ≠ D2 := fun e => by rw [← e, upd_same] at hD2; cases hD2
      have nDD2 : D ≠ D2 := fun e => by rw [← e, upd_ne nDd, h1] at hD2; cases hD2
      have hD20 : H D2 = none := by
        rw [upd_ne (Ne.symm ndD2)] at hD2
        exact s1.free hD2
      refine lc_list (K := K) (a := D) (xs := cs.map V.int) (fun i H2 => ∃ bs : List Int, H2 D2 = some (.lst (bs.map V.int)) ∧ H2 D = some (.lst (cs.map V.int)) ∧ H2 d = some (.dK []) ∧ Same H H2 ∧ (∀ c ∈ bs, 0 ≤ c) ∧ bs.length ≤ i)
        ⟨[], upd_same, by rw [upd_ne nDD2, upd_ne nDd]; exact h1, by rw [upd_ne ndD2]; exact upd_same, ?_, fun _ z => (by cases z), Nat.le_refl _⟩ (fun i H2 _ z => SqL.of z.choose_spec.2.1) ?_ ?_
      · exact s1.trans ((same_up hd _).trans (same_up hD2 _))
      · rintro i x H2 hi ⟨bs, g1, g2, g3, s2, b0, bl⟩
        have hil := (List.getElem?_eq_some_iff.mp hi).1
        rw [List.length_map] at hil
        rw [List.getElem?_map] at hi
        obtain ⟨c, hc, rfl⟩ := Option.map_eq_some_iff.mp hi
        refine ⟨rfl, _, rfl, _, _, rfl, rfl, ⟨by decide, by decide, by decide⟩, _, _, rfl, rfl, _, rfl, ?_⟩
        refine ite2 (fun hge => ?_) (fun _ => ⟨bs, g1, g2, g3, s2, b0, by omega⟩)
        refine ⟨_, rfl, bs.map V.int, g1, ?_, ?_⟩
        · rw [List.length_map]
          exact small1000 (by omega)
        · refine ⟨bs ++ [c], by rw [upd_same, List.map_append]; rfl, by rw [upd_ne nDD2]; exact g2, by rw [upd_ne ndD2]; exact g3, ?_, ?_, ?_⟩
          · intro b u e
            by_cases hb : b = D2
            · rw [hb, hD20] at e
              cases e
            · rw [upd_ne hb]
              exact s2 b u e
          · intro x hx
            rcases List.mem_append.mp hx with hx | hx
            · exact b0 x hx
            · rw [List.mem_singleton.mp hx]
              exact c0 c (List.mem_of_getElem? hc)
          · rw [List.length_append, List.length_singleton]
            omega
      · rintro H2 ⟨bs, g1, g2, g3, s2, b0, bl⟩
        rw [List.length_map] at bl
        refine ⟨D2, _, rfl, SqL.of g1, fun l hl => ?_⟩
        have nld : l ≠ d := fun e => by rw [e, g3] at hl; cases hl
        refine ⟨by rw [upd_ne (Ne.symm nld)]; exact g3, dl z 0 l, rfl, by show 3 ≤ 15; decide, ?_⟩
        rw [dl_merge]
        refine q d l _ ⟨z, 0, bs.reverse, upd_same, ?_, z0, z1, Int.le_refl 0, fun c hc => b0 c (List.mem_reverse.mp hc), by rw [List.length_reverse]; omega⟩ ?_ hd0 (s2.free hl)
        · rw [upd_ne nld, upd_same, List.map_reverse]
        · intro b u e
          have n1 : b ≠ d := fun z => by rw [z, hd0] at e; cases e
          have n2 : b ≠ l := ne_of_none (s2 _ _ e) hl
          rw [upd_ne n1, upd_ne n2]
          exact s2 b u e
end
end TC

namespace TC
open PySem PySem.Spec PyProof.Rows L2
theorem Old.refl (d l : Addr) (H : Hp) : Old d l H H := fun _ _ h _ _ => h
theorem Old.trans {d l : Addr} {H H1 H2 : Hp} (a : Old d l H H1) (b : Old d l H1 H2) : Old d l H H2 := fun c o h h1 h2 => b c o (a c o h h1 h2) h1 h2
theorem Old.same {d l : Addr} {H H' : Hp} (e : Same H H') : Old d l H H' := fun c o h _ _ => e c o h
theorem Old.new {d l p : Addr} {H : Hp} {o : HO} (h : H p = none) : Old d l H (upd H p o) := Old.same (same_up h o)
theorem DealAt.same {d l : Addr} {H H' : Hp} (D : DealAt H d l) (e : Same H H') : DealAt H' d l := by
  obtain ⟨s, n, left, h1, h2, q⟩ := D
  exact ⟨s, n, left, e _ _ h1, e _ _ h2, q⟩
theorem DealAt.dK {d l : Addr} {H : Hp} (D : DealAt H d l) : ∃ kvs, H d = some (.dK kvs) := by
  obtain ⟨s, n, left, h1, _⟩ := D
  exact ⟨_, h1⟩
theorem DealAt.lst {d l : Addr} {H : Hp} (D : DealAt H d l) : ∃ xs, H l = some (.lst xs) := by
  obtain ⟨s, n, left, _, h2, _⟩ := D
  exact ⟨_, h2⟩
theorem Old.tk {d l : Addr} {H H' : Hp} (o : Old d l H H') (D : DealAt H d l) : Tk H H' := fun b xs h => by
  obtain ⟨k, hd⟩ := D.dK
  obtain ⟨ys, hl⟩ := D.lst
  rcases h with h | ⟨ob, h⟩
  · exact .inl (o b _ h (ne_of h hd (by intro z; cases z)) (ne_of h hl (by intro z; cases z)))
  · exact .inr ⟨ob, o b _ h (ne_of h hd (by intro z; cases z)) (ne_of h hl (by intro z; cases z))⟩
/-- a list of the caller's -/
structure Mine (d l : Addr) (H : Hp) (p : Addr) (xs : List V) : Prop where
  at_ : H p = some (.lst xs)
  nd : p ≠ d
  nl : p ≠ l
theorem Mine.old {d l p : Addr} {H H' : Hp} {xs : List V} (m : Mine d l H p xs) (o : Old d l H H') : Mine d l H' p xs := ⟨o p _ m.at_ m.nd m.nl, m.nd, m.nl⟩
theorem Mine.new {d l p : Addr} {H : Hp} {xs : List V} (D : DealAt H d l) (h : H p = none) : Mine d l (upd H p (.lst xs)) p xs := by
  obtain ⟨k, hd⟩ := D.dK
  obtain ⟨ys, hl⟩ := D.lst
  exact ⟨upd_same, fun e => (ne_of_none hd h) e.symm, fun e => (ne_of_none hl h) e.symm⟩
/-! ### names -/
def Low (l : List Nat) : Prop := ∀ c ∈ l, 97 ≤ c ∧ c ≤ 122
theorem Low.app {a b : List Nat} (h : Low a) (h' : Low b) : Low (a ++ b) := fun c hc => (List.mem_append.mp hc).elim (h c) (h' c)
def Nm (x : Str) : Prop := ∃ l, x = SX.S l ∧ Low l ∧ l.length ≤ 20
theorem Nm.ok {x : Str} (h : Nm x) : PyData.strOk x = true := by
  obtain ⟨l, rfl, hl, _⟩ := h
  show (SX.S l).cps.all (· < 0x110000) = true
  rw [← Array.all_toList, List.all_eq_true]
  intro c hc
  have := (hl c hc).2
  exact decide_eq_true (by omega)
theorem abc_list : (Str.ofString "abcdefghijklmnopqrstuvwxyz").cps.toList = List.range' 97 26 := by decide +kernel
theorem abc_len : (Str.ofString "abcdefghijklmnopqrstuvwxyz").length ≤ sizeLine := by decide +kernel
theorem abc_at {i : Int} (h0 : 0 ≤ i) (h1 : i < 26) : ∃ c, atI (Str.ofString "abcdefghijklmnopqrstuvwxyz").cps.toList i = some c ∧ 97 ≤ c ∧ c ≤ 122 := by
  refine ⟨97 + i.toNat, ?_, by omega, by omega⟩
  have e : i = ((i.toNat : Nat) : Int) := by omega
  rw [abc_list]
  have q : atI (List.range' 97 26) ((i.toNat : Nat) : Int) = some (97 + i.toNat) := atI_nat (by rw [List.getElem?_range' (by omega)]; simp)
  rw [← e] at q
  exact q
theorem cut_sub (l : List Nat) (lo hi : Option Int) : ∃ a, cutS (SX.S l) lo hi = SX.S a ∧ (∀ c ∈ a, c ∈ l) ∧ a.length ≤ l.length := by
  refine ⟨(l.drop (HT.sIx (SX.S l).length 0 lo)).take (HT.sIx (SX.S l).length (SX.S l).length hi - HT.sIx (SX.S l).length 0 lo), rfl, fun c hc => List.drop_subset _ _ (List.take_subset _ _ hc), ?_⟩
  rw [List.length_take, List.length_drop]
  omega
theorem small_len {l : List Nat} (h : l.length ≤ 100) : (SX.S l).length ≤ sizeLine := by
  rw [SX.S_len]
  exact Nat.le_trans h (by decide)
theorem joinL_nil : ∀ l : List Nat, TL.joinL [] (l.map fun c => [c]) = l
  | [] => rfl
  | [c] => rfl
  | c :: c' :: l => by
    have q := joinL_nil (c' :: l)
    show [c] ++ ([] ++ TL.joinL [] ((c' :: l).map fun c => [c])) = c :: c' :: l
    rw [q]
    rfl
def spNames : Sp := fun vs H Q _ => ∃ (d l : Addr) (m : Int), vs = [.ref d, .int m] ∧ DealAt H d l ∧ 1 ≤ m ∧ m ≤ 20 ∧
  ∀ (p : Addr) (ns : List Str) (H' : Hp), Mine d l H' p (ns.map V.str) → (ns.length : Int) = m → (∀ n ∈ ns, Nm n) → DealAt H' d l → Old d l H H' → Q (.ref p) H'
theorem ixN_nat {n j : Nat} (h : j < n) : ixN n (j : Int) = some j := by
  unfold ixN
  rw [if_pos (by omega), if_pos (by omega)]
  simp
/-- any saying of just so many parts -/
def spSaying (K : PySem.W.Frag) (n : Nat) : Sp := fun vs H Q _ => ∃ (d l p : Addr) (m : Int) (ns : List Str), vs = [.ref d, .ref p, .int m] ∧ DealAt H d l ∧ Mine d l H p (ns.map V.str) ∧ 1 ≤ ns.length ∧ ns.length ≤ 100 ∧ (∀ x ∈ ns, PyData.strOk x = true) ∧ 1 ≤ m ∧ m ≤ (n : Int) ∧ n ≤ 1000 ∧
  ∀ (v : V) (S : Say) (H' : Hp), Dn K H' v S.nd → (S.size : Int) = m → DealAt H' d l → Old d l H H' → Q v H'
section
variable {P : Program} {w : World} {K : PySem.W.Frag} {mg : Str → Option Value} {base : Heap}
theorem ok_names {f : Addr} {fd : FuncData} (F : Fun K "_law_names" "_law_names" s_law_names f fd) (T : Top w K mg) (C_law_draw : C8.Cal P w K mg base 1 "_law_draw" spDraw []) : FnOk P w K mg base CX0 2 f fd ["_law_deal_here", "_law_many"] spNames := by
  refine F.ok sc_law_names (fun vs H Q E h => ?_) (fun cdv A outer s H vs Q E hr h => ?_)
  · obtain ⟨d, l, m, rfl, _⟩ := h
    rfl
  have hu := hu_of hr
  obtain ⟨d, l, m, rfl, hD, m1, m20, q⟩ := h
  refine ⟨_, (pss_cons (ps_set (i := 2) sc_law_names.nd rfl (Or.inr rfl) pe_str)
  (pss_cons (ps_set (i := 3) sc_law_names.nd rfl (Or.inl rfl) (pe_lst pa_nil))
  (pss_cons (ps_set (i := 5) sc_law_names.nd rfl (Or.inl rfl) (pe_join pe_str (pe_lc (own := [("_law_k", 4)]) (g := gName 4) (tt := tYes) (by rfl) sc_law_names.nd (pi_range1 (by rfl) T.z_range (pa_cons (C8.pe_c C_law_draw hr (by decide) rfl (pa_cons (pv 0) (pa_cons pe_int pa_nil))) pa_nil)) (blkOk_by (N := sc_law_names_N) (sc := defScope s_law_names) (by decide +kernel)) (fun _ _ _ _ _ => pg_name (i := 4) sc_law_names.nd rfl (Or.inl rfl)) (fun _ _ _ _ _ => pts_nil) (fun _ _ _ _ _ => (pe_ix ix_str (pv 2) (C8.pe_c C_law_draw hr (by decide) rfl (pa_cons (pv 0) (pa_cons pe_int pa_nil))) (fun _ _ => rfl))))))
  (pss_cons (ps_set (i := 6) sc_law_names.nd rfl (Or.inl rfl) (C8.pe_c C_law_draw hr (by decide) rfl (pa_cons (pv 0) (pa_cons (pe_op op_add (pe_callB call_len_str (by rfl) T.z_len PySem.boot_len (pa_cons (pv 5) pa_nil)) pe_int) pa_nil))))
  (pss_cons (ps_set (i := 7) sc_law_names.nd rfl (Or.inl rfl) (C8.pe_c C_law_draw hr (by decide) rfl (pa_cons (pv 0) (pa_cons pe_int pa_nil))))
  (pss_cons (ps_set (i := 8) sc_law_names.nd rfl (Or.inl rfl) (pe_ix ix_list (pe_lst (pa_cons pe_int (pa_cons pe_int pa_nil))) (C8.pe_c C_law_draw hr (by decide) rfl (pa_cons (pv 0) (pa_cons pe_int pa_nil))) (fun _ _ => rfl)))
  (pss_cons (ps_for PassesOwn.never rfl (pi_range1 (by rfl) T.z_range (pa_cons (pv 1) pa_nil)) (pg_name (i := 4) sc_law_names.nd rfl (Or.inl rfl))
    (pss_cons (ps_set (i := 9) sc_law_names.nd rfl (Or.inl rfl) (pe_op op_add_str (pe_op op_add_str (pe_slice sl_str (pv 5) po_none (po_some (pv 6))) (pe_ix ix_str (pv 2) (pe_op op_mod (pe_op op_add (pv 7) (pe_op op_mul (pv 8) (pv 4))) pe_int) (fun _ _ => rfl))) (pe_slice sl_str (pv 5) (po_some (pv 6)) po_none)))
    (pss_cons (ps_if (pt_cmpR op_in_seq (pv 9) (pe_tup (pa_cons pe_str (pa_cons pe_str (pa_cons pe_str (pa_cons pe_str pa_nil))))) (by rfl))
      (pss_one (ps_set (i := 9) sc_law_names.nd rfl (Or.inl rfl) (pe_op op_add_str (pv 9) pe_str)))
      pss_nil)
    (pss_one (ps_expr (pe_bm PySem.F.plainAttrs_list PySem.F.slot_list_append PySem.F.type_list_append mt_append (pv 3) (pa_cons (pv 9) pa_nil)))))))
  (pss_cons (ps_if (pt_cmpR op_gt (pv 1) pe_int (nomark _))
    (pss_one (ps_asg (pe_ix ix_list (pe_lst (pa_cons (pe_ix ix_list (pv 3) pe_int (fun _ _ => rfl)) (pa_cons (pe_op op_add_str (pe_ix ix_list (pv 3) pe_int (fun _ _ => rfl)) pe_str) (pa_cons (pe_op op_add_str (pe_ix ix_list (pv 3) pe_int (fun _ _ => rfl)) pe_str) pa_nil)))) (C8.pe_c C_law_draw hr (by decide) rfl (pa_cons (pv 0) (pa_cons pe_int pa_nil))) (fun _ _ => rfl)) (pg_sub (pv 3) pe_int set_list)))
    pss_nil)
  (pss_one (ps_ret (pv 3))))))))))), ?_⟩
  refine ⟨by show 0 ≤ sizeLine; decide, fun np hnp => ?_⟩
  have M0 : Mine d l (upd H np (.lst [])) np [] := Mine.new hD hnp
  have D0 : DealAt (upd H np (.lst [])) d l := hD.same (same_up hnp _)
  have O0 : Old d l H (upd H np (.lst [])) := Old.new hnp
  generalize upd H np (.lst []) = H0 at M0 D0 O0 ⊢
  refine ⟨⟨_, rfl⟩, _, rfl, d, l, _, rfl, D0, (by decide), (by decide), fun r H1 r0 r1 D1 O1 => ?_⟩
  refine ⟨r, rfl, by omega, by omega, fun D hnD => ?_⟩
  have MD : Mine d l (upd H1 D (.lst [])) D [] := Mine.new D1 hnD
  have DD : DealAt (upd H1 D (.lst [])) d l := D1.same (same_up hnD _)
  have neD : np ≠ D := fun e => by
    have z := (M0.old O1).at_
    rw [e, hnD] at z
    cases z
  refine lc_range (fun i H' => ∃ cs : List Nat, Mine d l H' D (cs.map fun c => V.str (SX.S [c])) ∧ Low cs ∧ cs.length = i ∧ DealAt H' d l ∧ Mine d l H' np [] ∧ Old d l H H') ⟨[], MD, (fun c z => nomatch z), rfl, DD, (M0.old O1).old (Old.new hnD), O0.trans (O1.trans (Old.new hnD))⟩ ?_ ?_
  · rintro i H2 hi ⟨cs, M2, L2', hl2, D2, N2, O2⟩
    refine ⟨rfl, _, rfl, _, rfl, d, l, _, rfl, D2, (by decide), (by decide), fun k H3 k0 k1 D3 O3 => ?_⟩
    obtain ⟨c, hc, c1, c2⟩ := abc_at k0 k1
    refine ⟨_, _, c, rfl, rfl, abc_len, hc, _, (M2.old O3).at_, ?_, cs ++ [c], ?_, ?_, ?_, ?_, ?_, ?_⟩
    · rw [List.length_map]
      exact small1000 (by omega)
    · rw [List.map_append]
      exact ⟨upd_same, M2.nd, M2.nl⟩
    · exact L2'.app (fun x hx => by rw [List.mem_singleton.mp hx]; exact ⟨c1, c2⟩)
    · rw [List.length_append, hl2]
      rfl
    · obtain ⟨s3, n3, left3, g1, g2, g3⟩ := D3
      exact ⟨s3, n3, left3, by rw [upd_ne (Ne.symm M2.nd)]; exact g1, by rw [upd_ne (Ne.symm M2.nl)]; exact g2, g3⟩
    · refine ⟨?_, N2.nd, N2.nl⟩
      rw [upd_ne neD]
      exact (N2.old O3).at_
    · intro b o hb nb nl
      have z := O3 b o (O2 b o hb nb nl) nb nl
      have hbD : b ≠ D := fun e => by
        have z2 := (O0.trans O1) b o hb nb nl
        rw [e, hnD] at z2
        cases z2
      rw [upd_ne hbD]
      exact z
  rintro H2 ⟨cs, M2, L2', hl2, D2, N2, O2⟩
  refine ⟨_, D, cs.map fun c => SX.S [c], rfl, rfl, .inl (SqL.of (by rw [M2.at_, List.map_map] <;> rfl)), ?_, ?_⟩
  · rw [List.map_map]
    have e : (cs.map ((fun x : Str => x.length) ∘ fun c => SX.S [c])) = cs.map fun _ => 1 := List.map_congr_left fun c _ => SX.S_len [c]
    rw [e, List.length_map]
    have e2 : (cs.map fun _ => 1).sum = cs.length := by
      clear e hl2 L2' M2
      induction cs with
      | nil => rfl
      | cons c cs ih => rw [List.map_cons, List.sum_cons, ih, List.length_cons]; omega
    rw [e2]
    have e3 : (Str.ofString "").length = 0 := by decide +kernel
    rw [e3]
    omega
  have ecore : Txt.join (Str.ofString "") (cs.map fun c => SX.S [c]) = SX.S cs := by
    have e1 : Str.ofString "" = SX.S [] := by decide +kernel
    have e2 : (cs.map fun c => SX.S [c]) = (cs.map fun c => [c]).map SX.S := by rw [List.map_map] <;> rfl
    rw [e1, e2, SX.join_S, joinL_nil]
  rw [ecore]
  have hcs : cs.length ≤ 4 := by omega
  have hcl : (SX.S cs).length = cs.length := SX.S_len cs
  refine ⟨_, rfl, _, rfl, _, rfl, small_len (by omega), _, _, rfl, rfl, d, l, _, rfl, D2, (by omega), (by omega), fun k H3 k0 k1 D3 O3 => ?_⟩
  refine ⟨_, rfl, d, l, _, rfl, D3, (by decide), (by decide), fun k' H4 k0' k1' D4 O4 => ?_⟩
  refine ⟨by show 2 ≤ sizeLine; decide, fun p2 hp2 => ?_⟩
  have D5 : DealAt (upd H4 p2 (.lst [.int 7, .int 1])) d l := D4.same (same_up hp2 _)
  have M5 : Mine d l (upd H4 p2 (.lst [.int 7, .int 1])) p2 [.int 7, .int 1] := Mine.new D4 hp2
  refine ⟨_, rfl, d, l, _, rfl, D5, (by decide), (by decide), fun k2 H6 k20 k21 D6 O6 => ?_⟩
  have hst : ∃ st : Int, atI [V.int 7, V.int 1] k2 = some (.int st) ∧ 0 ≤ st ∧ st ≤ 7 := by
    have : k2 = 0 ∨ k2 = 1 := by omega
    rcases this with e | e
    · rw [e]; exact ⟨7, rfl, by decide, by decide⟩
    · rw [e]; exact ⟨1, rfl, by decide, by decide⟩
  obtain ⟨st, hst, st0, st7⟩ := hst
  refine ⟨p2, _, k2, .int st, rfl, rfl, SqL.of (M5.old O6).at_, hst, ?_⟩
  have O6' : Old d l H H6 := O2.trans (O3.trans (O4.trans ((Old.new hp2).trans O6)))
  have N6 : Mine d l H6 np [] := (((N2.old O3).old O4).old (Old.new hp2)).old O6
  refine ⟨_, rfl, m, rfl, by omega, by omega, for_range (fun i σ H' => ∃ (ns : List Str) (v1 v2 : Option V), σ = [some (.ref d), some (.int m), some (.str "abcdefghijklmnopqrstuvwxyz"), some (.ref np), v1, some (.str (SX.S cs)), some (.int k), some (.int k'), some (.int st), v2] ∧
    ns.length = i ∧ (∀ n ∈ ns, ∃ l, n = SX.S l ∧ Low l ∧ l.length ≤ 10) ∧ Mine d l H' np (ns.map V.str) ∧ DealAt H' d l ∧ Old d l H H') ⟨[], none, none, rfl, rfl, (fun n z => nomatch z), N6, D6, O6'⟩ ?_ ?_⟩
  · rintro i σ H7 hi ⟨ns, v1, v2, rfl, hl7, hns, N7, D7, O7⟩
    have kin : 0 ≤ (k' + st * (0 + (i : Int))) % 26 := Int.emod_nonneg _ (by decide)
    have kin2 : (k' + st * (0 + (i : Int))) % 26 < 26 := Int.emod_lt_of_pos _ (by decide)
    obtain ⟨c, hc, c1, c2⟩ := abc_at kin kin2
    obtain ⟨a1, ea1, sa1, la1⟩ := cut_sub cs none (some k)
    obtain ⟨a2, ea2, sa2, la2⟩ := cut_sub cs (some k) none
    have low1 : Low a1 := fun x hx => L2' x (sa1 x hx)
    have low2 : Low a2 := fun x hx => L2' x (sa2 x hx)
    have lowc : Low [c] := fun x hx => by rw [List.mem_singleton.mp hx]; exact ⟨c1, c2⟩
    refine ⟨_, rfl, _, rfl, _, rfl, _, rfl, small_len (by omega), ?_⟩
    rw [ea1]
    refine ⟨_, rfl, _, rfl, _, rfl, _, rfl, _, _, rfl, rfl, .inr ⟨by omega, by omega⟩, _, _, rfl, rfl, _, _, rfl, rfl, (show (0 : Int) < 26 by decide), _, _, c, rfl, rfl, abc_len, hc, ?_⟩
    refine ⟨_, _, rfl, rfl, ?_, ?_⟩
    · show (SX.S a1).length + (SX.S [c]).length ≤ sizeLine
      rw [SX.S_len, SX.S_len]
      exact Nat.le_trans (by simp; omega : a1.length + [c].length ≤ 100) (by decide)
    rw [show (SX.S a1 ++ (⟨#[c]⟩ : Str)) = SX.S (a1 ++ [c]) from SX.S_cat a1 [c]]
    refine ⟨_, rfl, _, rfl, _, rfl, _, rfl, small_len (by omega), ?_⟩
    rw [ea2]
    refine ⟨_, _, rfl, rfl, ?_, ?_⟩
    · rw [SX.S_len, SX.S_len]
      exact Nat.le_trans (by simp; omega : (a1 ++ [c]).length + a2.length ≤ 100) (by decide)
    rw [SX.S_cat]
    have low3 : Low (a1 ++ [c] ++ a2) := (low1.app lowc).app low2
    have len3 : (a1 ++ [c] ++ a2).length ≤ 9 := by simp; omega
    generalize a1 ++ [c] ++ a2 = a3 at low3 len3 ⊢
    refine ⟨_, rfl, by show 4 ≤ sizeLine; decide, fun t ht => ?_⟩
    have Ot : Old d l H7 (upd H7 t (.tup [.str "and", .str "or", .str "not", .str "then"])) := Old.new ht
    have Dt : DealAt (upd H7 t (.tup [.str "and", .str "or", .str "not", .str "then"])) d l := D7.same (same_up ht _)
    have Nt := N7.old Ot
    refine ⟨t, _, rfl, .inr (SqT.of upd_same), rfl, rfl, _, rfl, ?_⟩
    have fin : ∀ (H8 : Hp) (a4 : List Nat), Low a4 → a4.length ≤ 10 → Mine d l H8 np (ns.map V.str) → DealAt H8 d l → Old d l H H8 → Mine d l (upd H8 np (.lst (ns.map V.str ++ [.str (SX.S a4)]))) np ((ns ++ [SX.S a4]).map V.str) ∧ DealAt (upd H8 np (.lst (ns.map V.str ++ [.str (SX.S a4)]))) d l ∧ Old d l H (upd H8 np (.lst (ns.map V.str ++ [.str (SX.S a4)]))) := by
      intro H8 a4 _ _ N8 D8 O8
      refine ⟨⟨by rw [List.map_append]; exact upd_same, N8.nd, N8.nl⟩, ?_, ?_⟩
      · obtain ⟨s3, n3, left3, g1, g2, g3⟩ := D8
        exact ⟨s3, n3, left3, by rw [upd_ne (Ne.symm N8.nd)]; exact g1, by rw [upd_ne (Ne.symm N8.nl)]; exact g2, g3⟩
      · intro b o hb nb nl
        have hbn : b ≠ np := fun e => by rw [e, hnp] at hb; cases hb
        rw [upd_ne hbn]
        exact O8 b o hb nb nl
    have len7 : (ns.map V.str).length < sizeLine := by
      rw [List.length_map]
      exact small1000 (by omega)
    refine ite2 (fun _ => ?_) (fun _ => ?_)
    · refine ⟨_, rfl, _, _, rfl, rfl, ?_, ?_⟩
      · rw [SX.S_len]
        have e1 : (Str.ofString "q").length = 1 := by decide +kernel
        rw [e1]
        exact Nat.le_trans (by omega : a3.length + 1 ≤ 100) (by decide)
      have eq1 : Str.ofString "q" = SX.S [113] := by decide +kernel
      rw [eq1, SX.S_cat]
      have low4 : Low (a3 ++ [113]) := low3.app fun x hx => by rw [List.mem_singleton.mp hx]; exact ⟨by decide, by decide⟩
      have len4 : (a3 ++ [113]).length ≤ 10 := by simp; omega
      obtain ⟨f1, f2, f3⟩ := fin _ _ low4 len4 Nt Dt (O7.trans Ot)
      refine ⟨_, rfl, .inl ⟨rfl, _, SqL.of Nt.at_⟩, _, rfl, np, _, _, rfl, rfl, Nt.at_, len7, ?_⟩
      exact ⟨ns ++ [SX.S (a3 ++ [113])], _, _, rfl, by rw [List.length_append, hl7]; rfl, fun n hn => (List.mem_append.mp hn).elim (hns n) fun z => ⟨_, List.mem_singleton.mp z, low4, len4⟩, f1, f2, f3⟩
    · obtain ⟨f1, f2, f3⟩ := fin _ _ low3 (by omega) Nt Dt (O7.trans Ot)
      refine ⟨_, rfl, .inl ⟨rfl, _, SqL.of Nt.at_⟩, _, rfl, np, _, _, rfl, rfl, Nt.at_, len7, ?_⟩
      exact ⟨ns ++ [SX.S a3], _, _, rfl, by rw [List.length_append, hl7]; rfl, fun n hn => (List.mem_append.mp hn).elim (hns n) fun z => ⟨_, List.mem_singleton.mp z, low3, by omega⟩, f1, f2, f3⟩
  · rintro σ H7 ⟨ns, v1, v2, rfl, hl7, hns, N7, D7, O7⟩
    refine ⟨_, rfl, _, _, rfl, rfl, _, rfl, ?_⟩
    refine ite2 (fun cm => ?_) (fun cm => ?_)
    · have cm' : (1 : Int) < m := of_decide_eq_true cm
      have h2 : 2 ≤ ns.length := by omega
      obtain ⟨n0, n1, rest, rfl⟩ : ∃ n0 n1 rest, ns = n0 :: n1 :: rest := by
        match ns, h2 with
        | n0 :: n1 :: rest, _ => exact ⟨n0, n1, rest, rfl⟩
      obtain ⟨l0, rfl, low0, len0⟩ := hns n0 (by simp)
      obtain ⟨l1, rfl, low1, len1⟩ := hns _ (by simp : n1 ∈ SX.S l0 :: n1 :: rest)
      have ez : Str.ofString "z" = SX.S [122] := by decide +kernel
      have elz : (Str.ofString "z").length = 1 := by decide +kernel
      have lowz : Low [122] := fun x hx => by rw [List.mem_singleton.mp hx]; exact ⟨by decide, by decide⟩
      have sq := SqL.of (K := K) N7.at_
      have at0 : atI (List.map V.str (SX.S l0 :: SX.S l1 :: rest)) 0 = some (.str (SX.S l0)) := atI_nat (j := 0) rfl
      have at1 : atI (List.map V.str (SX.S l0 :: SX.S l1 :: rest)) 1 = some (.str (SX.S l1)) := atI_nat (j := 1) rfl
      refine ⟨_, rfl, np, _, 0, _, rfl, rfl, sq, at0, _, rfl, np, _, 0, _, rfl, rfl, sq, at0, _, _, rfl, rfl, ?_, ?_⟩
      · rw [SX.S_len, elz]
        exact Nat.le_trans (by omega : l0.length + 1 ≤ 100) (by decide)
      rw [ez, SX.S_cat]
      refine ⟨_, rfl, np, _, 1, _, rfl, rfl, sq, at1, _, _, rfl, rfl, ?_, ?_⟩
      · rw [SX.S_len, SX.S_len]
        exact Nat.le_trans (by simp; omega : l1.length + [122].length ≤ 100) (by decide)
      rw [SX.S_cat]
      refine ⟨by show 3 ≤ sizeLine; decide, fun p3 hp3 => ?_⟩
      have M8 := Mine.new (xs := [.str (SX.S l0), .str (SX.S (l0 ++ [122])), .str (SX.S (l1 ++ [122]))]) D7 hp3
      have D8 : DealAt (upd H7 p3 (.lst [.str (SX.S l0), .str (SX.S (l0 ++ [122])), .str (SX.S (l1 ++ [122]))])) d l := D7.same (same_up hp3 _)
      have N8 := N7.old (Old.new (d := d) (l := l) (o := .lst [.str (SX.S l0), .str (SX.S (l0 ++ [122])), .str (SX.S (l1 ++ [122]))]) hp3)
      refine ⟨_, rfl, d, l, _, rfl, D8, (by decide), (by decide), fun k3 H9 k30 k31 D9 O9 => ?_⟩
      have pick : ∃ a, atI [V.str (SX.S l0), .str (SX.S (l0 ++ [122])), .str (SX.S (l1 ++ [122]))] k3 = some (.str (SX.S a)) ∧ Low a ∧ a.length ≤ 11 := by
        have : k3 = 0 ∨ k3 = 1 ∨ k3 = 2 := by omega
        rcases this with e | e | e
        · rw [e]; exact ⟨l0, rfl, low0, by omega⟩
        · rw [e]; exact ⟨l0 ++ [122], rfl, low0.app lowz, by simp; omega⟩
        · rw [e]; exact ⟨l1 ++ [122], rfl, low1.app lowz, by simp; omega⟩
      obtain ⟨a, ha, lowa, lena⟩ := pick
      have N9 := N8.old O9
      refine ⟨p3, _, k3, _, rfl, rfl, SqL.of (M8.old O9).at_, ha, _, rfl, np, _, 0, 0, rfl, rfl, N9.at_, ixN_nat (j := 0) (by simp), ?_⟩
      refine ⟨_, rfl, q np (SX.S a :: SX.S l1 :: rest) _ ⟨upd_same, N9.nd, N9.nl⟩ (by simp at hl7 ⊢; omega) (fun n hn => ?_) ?_ ?_⟩
      · rcases List.mem_cons.mp hn with e | hn
        · exact ⟨a, e, lowa, by omega⟩
        · obtain ⟨l', e', low', len'⟩ := hns n (List.mem_cons_of_mem _ hn)
          exact ⟨l', e', low', by omega⟩
      · obtain ⟨s3, n3, left3, g1, g2, g3⟩ := D9
        exact ⟨s3, n3, left3, by rw [upd_ne (Ne.symm N9.nd)]; exact g1, by rw [upd_ne (Ne.symm N9.nl)]; exact g2, g3⟩
      · intro b o hb nb nl
        have hbn : b ≠ np := fun e => by rw [e, hnp] at hb; cases hb
        rw [upd_ne hbn]
        exact (O7.trans ((Old.new hp3).trans O9)) b o hb nb nl
    · refine ⟨_, rfl, q np ns H7 N7 (by omega) (fun n hn => ?_) D7 O7⟩
      obtain ⟨l', e', low', len'⟩ := hns n hn
      exact ⟨l', e', low', by omega⟩
end
section
variable {P : Program} {w : World} {K : PySem.W.Frag} {mg : Str → Option Value} {base : Heap}
theorem say_step {n : Nat} {f : Addr} {fd : FuncData} (F : Fun K "_law_saying" "_law_saying" s_law_saying f fd) (T : Top w K mg) (C_law_draw : C8.Cal P w K mg base 1 "_law_draw" spDraw []) (C_law_saying : C8.Cal P w K mg base (n + 1) "_law_saying" (spSaying K n) []) :
    FnOk P w K mg base CX0 (n + 2) f fd ["_law_deal_here", "_law_names_here", "_law_many"] (spSaying K (n + 1)) := by
  refine F.ok sc_law_saying (fun vs H Q E h => ?_) (fun cdv A outer s H vs Q E hr h => ?_)
  · obtain ⟨d, l, p, m, ns, rfl, _⟩ := h
    rfl
  have hu := hu_of hr
  obtain ⟨d, l, p, m, ns, rfl, hD, hM, n1, n100, hok, m1, mn, n1000, q⟩ := h
  refine ⟨_, (pss_cons (ps_if (pt_cmpR op_eq (pv 2) pe_int (nomark _))
    (pss_one (ps_ret (pe_tup (pa_cons pe_str (pa_cons (pe_ix ix_list (pv 1) (C8.pe_c C_law_draw hr (by omega) rfl (pa_cons (pv 0) (pa_cons (pe_callB call_len_seq (by rfl) T.z_len PySem.boot_len (pa_cons (pv 1) pa_nil)) pa_nil))) (fun _ _ => rfl)) pa_nil)))))
    pss_nil)
  (pss_cons (ps_set (i := 3) sc_law_saying.nd rfl (Or.inl rfl) (C8.pe_c C_law_draw hr (by omega) rfl (pa_cons (pv 0) (pa_cons pe_int pa_nil))))
  (pss_cons (ps_if (PW.pt (pw_or (pt_cmpR op_eq (pv 2) pe_int (nomark _)) (pw_or1 (pt_cmpR op_eq (pv 3) pe_int (nomark _)))))
    (pss_one (ps_ret (pe_tup (pa_cons pe_str (pa_cons (C8.pe_c C_law_saying hr (by omega) rfl (pa_cons (pv 0) (pa_cons (pv 1) (pa_cons (pe_op op_sub (pv 2) pe_int) pa_nil)))) pa_nil)))))
    pss_nil)
  (pss_cons (ps_set (i := 4) sc_law_saying.nd rfl (Or.inl rfl) (pe_op op_add pe_int (C8.pe_c C_law_draw hr (by omega) rfl (pa_cons (pv 0) (pa_cons (pe_op op_sub (pv 2) pe_int) pa_nil)))))
  (pss_cons (ps_set (i := 5) sc_law_saying.nd rfl (Or.inl rfl) (C8.pe_c C_law_saying hr (by omega) rfl (pa_cons (pv 0) (pa_cons (pv 1) (pa_cons (pv 4) pa_nil)))))
  (pss_one (ps_ret (pe_tup (pa_cons (pe_ix ix_list (pe_lst (pa_cons pe_str (pa_cons pe_str (pa_cons pe_str pa_nil)))) (pv 3) (fun _ _ => rfl)) (pa_cons (pv 5) (pa_cons (C8.pe_c C_law_saying hr (by omega) rfl (pa_cons (pv 0) (pa_cons (pv 1) (pa_cons (pe_op op_sub (pe_op op_sub (pv 2) pe_int) (pv 4)) pa_nil)))) pa_nil))))))))))), ?_⟩
  have hln : (ns.map V.str).length = ns.length := List.length_map _
  refine ⟨_, rfl, rfl, _, rfl, ?_⟩
  refine ite2 (fun c => ?_) (fun c => ?_)
  · have c' : m = 1 := V.int.inj (of_decide_eq_true c)
    refine ⟨_, rfl, _, rfl, _, rfl, p, _, rfl, .inl (SqL.of hM.at_), d, l, _, rfl, hD, by omega, by omega, fun r H1 r0 r1 D1 O1 => ?_⟩
    rw [hln] at r1
    have hx : (ns.map V.str)[r.toNat]? = some (.str (ns[r.toNat]'(by omega))) := by rw [List.getElem?_map, List.getElem?_eq_getElem (by omega)] <;> rfl
    have hr : atI (ns.map V.str) r = some (.str (ns[r.toNat]'(by omega))) := by
      have e : r = ((r.toNat : Nat) : Int) := by omega
      have z := atI_nat hx
      rw [← e] at z
      exact z
    refine ⟨p, _, r, _, rfl, rfl, SqL.of (hM.old O1).at_, hr, by show 2 ≤ sizeLine; decide, fun t ht => ?_⟩
    exact q _ (.say (ns[r.toNat]'(by omega))) _ (mk_say (SqT.of upd_same) (hok _ (List.getElem_mem _))) (by rw [c']; rfl) (D1.same (same_up ht _)) (O1.trans (Old.new ht))
  · have c' : ¬ m = 1 := fun e => c (by rw [e]; exact decide_eq_true rfl)
    refine ⟨_, rfl, d, l, _, rfl, hD, by decide, by decide, fun wy H1 w0 w1 D1 O1 => ?_⟩
    have M1 := hM.old O1
    have neg : ∀ (H2 : Hp), DealAt H2 d l → Mine d l H2 p (ns.map V.str) → Old d l H H2 → spSaying K n [.ref d, .ref p, .int (m - 1)] H2 (fun v H' => ∀ t, H' t = none → Q (.ref t) (upd H' t (.tup [.str "not", v]))) C8.E0 := by
      intro H2 D2 M2 O2
      refine ⟨d, l, p, m - 1, ns, rfl, D2, M2, n1, n100, hok, by omega, by omega, by omega, fun v S H3 hv hs D3 O3 t ht => ?_⟩
      exact q _ (.not S) _ (mk_not (SqT.of upd_same) (hv.tk (Tk.new ht))) (by show ((S.size + 1 : Nat) : Int) = m; omega) (D3.same (same_up ht _)) (O2.trans (O3.trans (Old.new ht)))
    have way2 : ∀ (H2 : Hp), DealAt H2 d l → Mine d l H2 p (ns.map V.str) → Old d l H H2 → _ := neg
    refine ⟨_, rfl, rfl, _, rfl, ?_⟩
    have go : ∀ b : Bool, True := fun _ => trivial
    by_cases c2 : m = 2
    · rw [show decide (V.int m = V.int 2) = true from decide_eq_true (by rw [c2])]
      refine iteT ?_
      refine iteT ?_
      have z := neg H1 D1 M1 O1
      obtain ⟨d', l', p', m', ns', e, D', M', a1, a2, a3, a4, a5, a6, z⟩ := z
      cases e
      refine ⟨_, rfl, _, rfl, _, rfl, _, _, rfl, rfl, d, l', p, m - 1, ns', rfl, D', M', a1, a2, a3, a4, a5, a6, fun v S H3 hv hs D3 O3 => ?_⟩
      exact ⟨by show 2 ≤ sizeLine; decide, fun t ht => z v S H3 hv hs D3 O3 t ht⟩
    · rw [show decide (V.int m = V.int 2) = false from decide_eq_false fun e => c2 (V.int.inj e)]
      refine iteF ?_
      refine ⟨_, rfl, rfl, _, rfl, ?_⟩
      by_cases c3 : wy = 3
      · rw [show decide (V.int wy = V.int 3) = true from decide_eq_true (by rw [c3])]
        refine iteT ?_
        have z := neg H1 D1 M1 O1
        obtain ⟨d', l', p', m', ns', e, D', M', a1, a2, a3, a4, a5, a6, z⟩ := z
        cases e
        refine ⟨_, rfl, _, rfl, _, rfl, _, _, rfl, rfl, d, l', p, m - 1, ns', rfl, D', M', a1, a2, a3, a4, a5, a6, fun v S H3 hv hs D3 O3 => ?_⟩
        exact ⟨by show 2 ≤ sizeLine; decide, fun t ht => z v S H3 hv hs D3 O3 t ht⟩
      · rw [show decide (V.int wy = V.int 3) = false from decide_eq_false fun e => c3 (V.int.inj e)]
        refine iteF ?_
        refine ⟨_, rfl, _, rfl, _, _, rfl, rfl, d, l, _, rfl, D1, by omega, by omega, fun k H2 k0 k1 D2 O2 => ?_⟩
        refine ⟨_, _, rfl, rfl, _, rfl, _, rfl, _, rfl, d, l, p, 1 + k, ns, rfl, D2, M1.old O2, n1, n100, hok, by omega, by omega, by omega, fun v1 S1 H3 hv1 hs1 D3 O3 => ?_⟩
        refine ⟨by show 3 ≤ sizeLine; decide, fun lp hlp => ?_⟩
        have O4 : Old d l H3 (upd H3 lp (.lst [.str "and", .str "or", .str "if"])) := Old.new hlp
        have pick : ∃ o : Op3, atI [V.str "and", .str "or", .str "if"] wy = some (.str o.name) := by
          have : wy = 0 ∨ wy = 1 ∨ wy = 2 := by omega
          rcases this with e | e | e
          · rw [e]; exact ⟨.and, rfl⟩
          · rw [e]; exact ⟨.or, rfl⟩
          · rw [e]; exact ⟨.iff, rfl⟩
        obtain ⟨o, ho⟩ := pick
        refine ⟨_, rfl, lp, _, wy, _, rfl, rfl, SqL.of upd_same, ho, _, rfl, _, rfl, _, rfl, _, rfl, _, _, rfl, rfl, _, rfl, _, _, rfl, rfl, ?_⟩
        refine ⟨d, l, p, m - 1 - (1 + k), ns, rfl, D3.same (same_up hlp _), ((M1.old O2).old O3).old O4, n1, n100, hok, by omega, by omega, by omega, fun v2 S2 H5 hv2 hs2 D5 O5 => ?_⟩
        refine ⟨by show 3 ≤ sizeLine; decide, fun t ht => ?_⟩
        have hv1' : Dn K (upd H5 t (.tup [.str o.name, v1, v2])) v1 S1.nd := ((hv1.tk (O4.tk D3)).tk (O5.tk (D3.same (same_up hlp _)))).tk (Tk.new ht)
        exact q _ (.bin o S1 S2) _ (mk_bin (SqT.of upd_same) hv1' (hv2.tk (Tk.new ht))) (by show ((S1.size + S2.size + 1 : Nat) : Int) = m; omega) (D5.same (same_up ht _)) (O1.trans (O2.trans (O3.trans (O4.trans (O5.trans (Old.new ht))))))
theorem ok_saying (T : Top w K mg) (C_law_draw : C8.Cal P w K mg base 1 "_law_draw" spDraw []) : ∀ n : Nat, C8.Cal P w K mg base (n + 1) "_law_saying" (spSaying K n) []
  | 0 => T.d_law_saying.cal fun f fd F => by
    have no : ∀ vs H Q E, ¬ spSaying K 0 vs H Q E := fun vs H Q E h => by
      obtain ⟨d, l, p, m, ns, _, _, _, _, _, _, h1, h2, _⟩ := h
      omega
    exact ⟨fun vs H Q E h => absurd h (no vs H Q E), fun A outer s H args us vs Q E _ _ _ _ h => absurd h (no vs H Q E)⟩
  | n + 1 => T.d_law_saying.cal fun f fd F => say_step F T C_law_draw (ok_saying T C_law_draw n)
end
end TC


namespace TC
open PySem PySem.Spec PyProof.Rows L2
/-! ### doubts and answers: the mathematics -/
def Say.word : Say → Str
  | .say _ => "say"
  | .not _ => "not"
  | .bin o _ _ => o.name
def words : Say → List Str
  | .say _ => []
  | .not _ => ["not"]
  | .bin .and _ _ => ["left", "right"]
  | .bin .or _ _ => ["which"]
  | .bin .iff _ _ => ["if"]
/-- two sayings in order, none twice -/
def two (A B : Say) : List Say := if NestedKey.beq A.nd B.nd = true then [A] else if ltD A.nd B.nd = true then [A, B] else [B, A]
theorem two_same (A : Say) : two A A = [A] := by
  unfold two
  rw [if_pos (NestedKey.beq_self _)]
theorem beq_ne {x y : ND} (h : x ≠ y) : NestedKey.beq x y = false := by
  cases e : NestedKey.beq x y with
  | false => rfl
  | true => exact absurd (NestedKey.eq_of_beq _ _ e) h
theorem two_lt {A B : Say} (h : ltD A.nd B.nd = true) : two A B = [A, B] := by
  have ne : A.nd ≠ B.nd := fun e => by
    rw [e, ltD_irr] at h
    cases h
  unfold two
  rw [beq_ne ne, if_neg Bool.false_ne_true, if_pos h]
theorem two_gt {A B : Say} (h : ltD B.nd A.nd = true) : two A B = [B, A] := by
  have ne : A.nd ≠ B.nd := fun e => by
    rw [e, ltD_irr] at h
    cases h
  have h2 : ltD A.nd B.nd = false := ltD_asym h
  unfold two
  rw [beq_ne ne, if_neg Bool.false_ne_true, h2, if_neg Bool.false_ne_true]
def answers (wd : Str) (S : Say) : List Say :=
  if wd = "begin" then [S] else
  match S with
  | .bin .and A B => if wd = "left" then [A] else [B]
  | .bin .or A B => two A B
  | .bin .iff _ B => [B]
  | _ => []
/-- what is said by the doubt -/
def saidBy (wd : Str) (S : Say) : Option Say :=
  if wd = "begin" then none else
  match S with
  | .not A => some A
  | .bin .iff A _ => some A
  | _ => none
/-- a strictly rising list is made by its members -/
theorem rise_eq : ∀ {l m : List ND}, l.Pairwise (fun x y => ltD x y = true) → m.Pairwise (fun x y => ltD x y = true) → (∀ x, x ∈ l ↔ x ∈ m) → l = m
  | [], [], _, _, _ => rfl
  | [], y :: m, _, _, h => absurd ((h y).mpr List.mem_cons_self) (by simp)
  | x :: l, [], _, _, h => absurd ((h x).mp List.mem_cons_self) (by simp)
  | x :: l, y :: m, h1, h2, h => by
    obtain ⟨a1, b1⟩ := List.pairwise_cons.mp h1
    obtain ⟨a2, b2⟩ := List.pairwise_cons.mp h2
    have e : x = y := by
      rcases List.mem_cons.mp ((h x).mp List.mem_cons_self) with e | hx
      · exact e
      · rcases List.mem_cons.mp ((h y).mpr List.mem_cons_self) with e | hy
        · exact e.symm
        · have q1 := a2 x hx
          have q2 := a1 y hy
          rw [ltD_asym q1] at q2
          cases q2
    subst e
    have no1 : x ∉ l := fun hx => by
      have q := a1 x hx
      rw [ltD_irr] at q
      cases q
    have no2 : x ∉ m := fun hx => by
      have q := a2 x hx
      rw [ltD_irr] at q
      cases q
    rw [rise_eq b1 b2 fun z => ⟨fun hz => by
      rcases List.mem_cons.mp ((h z).mp (List.mem_cons_of_mem _ hz)) with e | q
      · exact absurd (e ▸ hz) no1
      · exact q, fun hz => by
      rcases List.mem_cons.mp ((h z).mpr (List.mem_cons_of_mem _ hz)) with e | q
      · exact absurd (e ▸ hz) no2
      · exact q⟩]
theorem two_rise (A B : Say) : ((two A B).map Say.nd).Pairwise (fun x y => ltD x y = true) ∧ ∀ x, x ∈ (two A B).map Say.nd ↔ x = A.nd ∨ x = B.nd := by
  rcases ltD_tri A.nd B.nd with h | h | h
  · rw [two_lt h]
    refine ⟨.cons (fun y hy => by rw [List.mem_singleton.mp hy]; exact h) (.cons (fun y hy => nomatch hy) .nil), fun x => by simp⟩
  · have e := Say.nd_inj _ _ h
    subst e
    rw [two_same]
    refine ⟨.cons (fun y hy => nomatch hy) .nil, fun x => by simp⟩
  · rw [two_gt h]
    refine ⟨.cons (fun y hy => by rw [List.mem_singleton.mp hy]; exact h) (.cons (fun y hy => nomatch hy) .nil), fun x => by simp [or_comm]⟩
/-- v is the saying S, small, or an or of one small saying with itself, one object -/
def Gd (K : PySem.W.Frag) (H : Hp) (v : V) (S : Say) : Prop :=
  Dn K H v S.nd ∧ (S.size ≤ 9 ∨ ∃ a x S1, v = .ref a ∧ SqT K H a [.str "or", x, x] ∧ S = .bin .or S1 S1 ∧ S1.size ≤ 9 ∧ Dn K H x S1.nd)
theorem Gd.tk {K : PySem.W.Frag} {H H' : Hp} {v : V} {S : Say} (g : Gd K H v S) (t : Tk H H') : Gd K H' v S :=
  ⟨g.1.tk t, g.2.imp id fun ⟨a, x, S1, e, hs, e2, h9, hx⟩ => ⟨a, x, S1, e, t.sqt hs, e2, h9, hx.tk t⟩⟩
theorem Gd.dep {K : PySem.W.Frag} {H : Hp} {v : V} {S : Say} (g : Gd K H v S) : S.dep ≤ 10 := by
  rcases g.2 with h | ⟨a, x, S1, _, _, rfl, h9, _⟩
  · have := Say.dep_le S
    omega
  · have := Say.dep_le S1
    show max S1.dep S1.dep + 1 ≤ 10
    omega
/-- an or: both parts, one object or shallow -/
theorem Gd.or {K : PySem.W.Frag} {H : Hp} {v : V} {A B : Say} (g : Gd K H v (.bin .or A B)) : ∃ t a b, v = .ref t ∧ SqT K H t [.str "or", .ref a, .ref b] ∧ Dn K H (.ref a) A.nd ∧ Dn K H (.ref b) B.nd ∧ (a = b ∨ (A.dep ≤ 8 ∧ B.dep ≤ 8)) ∧ A.dep ≤ 9 ∧ B.dep ≤ 9 := by
  have isref : ∀ {x : V} {S : Say}, Dn K H x S.nd → ∃ a, x = .ref a := fun {x S} h => by
    cases S with
    | say n => obtain ⟨a, e, _⟩ := sa_say h; exact ⟨a, e⟩
    | not A => obtain ⟨a, x, e, _⟩ := sa_not h; exact ⟨a, e⟩
    | bin o A B => obtain ⟨a, x, y, e, _⟩ := sa_bin h; exact ⟨a, e⟩
  rcases g.2 with h | ⟨t, x, S1, e, hs, e2, h9, hx⟩
  · obtain ⟨t, x, y, e, hs, h1, h2⟩ := sa_bin g.1
    obtain ⟨a, rfl⟩ := isref h1
    obtain ⟨b, rfl⟩ := isref h2
    have d1 := Say.dep_le A
    have d2 := Say.dep_le B
    have p1 := Say.size_pos A
    have p2 := Say.size_pos B
    have hz : A.size + B.size + 1 ≤ 9 := h
    exact ⟨t, a, b, e, hs, h1, h2, .inr ⟨by omega, by omega⟩, by omega, by omega⟩
  · injection e2 with _ ea eb
    subst ea eb
    obtain ⟨a, rfl⟩ := isref hx
    have d1 := Say.dep_le B
    exact ⟨t, a, a, e, hs, hx, hx, .inl rfl, by omega, by omega⟩
theorem sa_head {K : PySem.W.Frag} {H : Hp} {v : V} {S : Say} (h : Dn K H v S.nd) : ∃ a xs, v = .ref a ∧ SqT K H a (.str S.word :: xs) := by
  cases S with
  | say n => obtain ⟨a, e, hs, _⟩ := sa_say h; exact ⟨a, _, e, hs⟩
  | not A => obtain ⟨a, x, e, hs, _⟩ := sa_not h; exact ⟨a, _, e, hs⟩
  | bin o A B => obtain ⟨a, x, y, e, hs, _⟩ := sa_bin h; exact ⟨a, _, e, hs⟩
theorem at_head {x : V} {xs : List V} : atI (x :: xs) 0 = some x := atI_nat (j := 0) rfl
theorem at_one {x y : V} {xs : List V} : atI (x :: y :: xs) 1 = some y := atI_nat (j := 1) rfl
theorem at_two {x y z : V} {xs : List V} : atI (x :: y :: z :: xs) 2 = some z := atI_nat (j := 2) rfl
theorem mk_list {H : Hp} {p : Addr} {o : HO} : upd H p o p = some o := upd_same
/-! ### data of texts alone -/
mutual
def txt : PyData → Bool
  | .str x => PyData.strOk x
  | .list xs => decide (xs.length ≤ 100) && txts xs
  | .tuple xs => decide (xs.length ≤ 100) && txts xs
  | .none => false
  | .bool _ => false
  | .int _ => false
  | .dict _ => false
def txts : List PyData → Bool
  | [] => true
  | x :: xs => txt x && txts xs
end
mutual
theorem txt_lay : ∀ d : PyData, txt d = true → d.canLay0 = true
  | .str x, h => by simpa only [txt, PyData.canLay0] using h
  | .list xs, h => by
    simp only [txt, Bool.and_eq_true] at h
    simp only [PyData.canLay0]
    exact txts_lay xs h.2
  | .tuple xs, h => by
    simp only [txt, Bool.and_eq_true] at h
    simp only [PyData.canLay0]
    exact txts_lay xs h.2
  | .none, h => by simp [txt] at h
  | .bool _, h => by simp [txt] at h
  | .int _, h => by simp [txt] at h
  | .dict _, h => by simp [txt] at h
theorem txts_lay : ∀ ds : List PyData, txts ds = true → PyData.canLayAll0 ds = true
  | [], _ => by simp [PyData.canLayAll0]
  | d :: ds, h => by
    simp only [txts, Bool.and_eq_true] at h
    simp only [PyData.canLayAll0, txt_lay d h.1, txts_lay ds h.2, Bool.and_self]
end
theorem Say.txt : ∀ {K : PySem.W.Frag} {H : Hp} (S : Say) (v : V), Dn K H v S.nd → TC.txt S.nd.data = true
  | K, H, .say n, v, h => by
    obtain ⟨a, e, _, o⟩ := sa_say h
    simp only [Say.nd, NestedKey.data, NestedKey.datas, TC.txt, txts, o, Bool.and_true]
    rw [Bool.and_eq_true]
    exact ⟨decide_eq_true (by show 2 ≤ 100; decide), by decide +kernel⟩
  | K, H, .not A, v, h => by
    obtain ⟨a, x, _, _, hx⟩ := sa_not h
    have q := Say.txt A x hx
    simp only [Say.nd, NestedKey.data, NestedKey.datas, TC.txt, txts, q, Bool.and_true]
    rw [Bool.and_eq_true]
    exact ⟨decide_eq_true (by show 2 ≤ 100; decide), by decide +kernel⟩
  | K, H, .bin o A B, v, h => by
    obtain ⟨a, x, y, _, _, hx, hy⟩ := sa_bin h
    have q1 := Say.txt A x hx
    have q2 := Say.txt B y hy
    simp only [Say.nd, NestedKey.data, NestedKey.datas, TC.txt, txts, q1, q2, Bool.and_true]
    rw [Bool.and_eq_true]
    exact ⟨decide_eq_true (by show 3 ≤ 100; decide), ok_name o⟩
def spWords (K : PySem.W.Frag) : Sp := fun vs H Q _ => ∃ (v : V) (S : Say), vs = [v] ∧ Dn K H v S.nd ∧ ∀ (p : Addr) (H' : Hp), Same H H' → H p = none → H' p = some (.lst ((words S).map V.str)) → Q (.ref p) H'
def spAnswers (K : PySem.W.Frag) : Sp := fun vs H Q _ => ∃ (t : Addr) (wd : Str) (v : V) (S : Say), vs = [.ref t] ∧ SqT K H t [.str wd, v] ∧ Gd K H v S ∧ (wd = "begin" ∨ wd ∈ words S) ∧
  ∀ (p : Addr) (ys : List V) (H' : Hp), Same H H' → H p = none → H' p = some (.lst ys) → DnAll K H' ys ((answers wd S).map Say.nd) → Q (.ref p) H'
def OptS (K : PySem.W.Frag) (H : Hp) (v : V) : Option Say → Prop
  | none => v = .non
  | some S => Dn K H v S.nd
def spSaid (K : PySem.W.Frag) : Sp := fun vs H Q _ => ∃ (t : Addr) (wd : Str) (v : V) (S : Say), vs = [.ref t] ∧ SqT K H t [.str wd, v] ∧ Dn K H v S.nd ∧ (wd = "begin" ∨ wd ∈ words S) ∧
  ∀ (r : V), OptS K H r (saidBy wd S) → Q r H
section
variable {P : Program} {w : World} {K : PySem.W.Frag} {mg : Str → Option Value} {base : Heap}
theorem ok_words {f : Addr} {fd : FuncData} (F : Fun K "_law_words" "_law_words" s_law_words f fd) (T : Top w K mg) : FnOk P w K mg base CX0 1 f fd ["_law_saying_here"] (spWords K) := by
  refine F.ok sc_law_words (fun vs H Q E h => ?_) (fun cdv A outer s H vs Q E hr h => ?_)
  · obtain ⟨v, S, rfl, _⟩ := h
    rfl
  have hu := hu_of hr
  obtain ⟨v, S, rfl, hv, q⟩ := h
  refine ⟨_, (pss_cons (ps_if (pt_cmpR op_eq (pe_ix ix_tup (pv 0) pe_int (fun _ _ => rfl)) pe_str (nomark _))
    (pss_one (ps_ret (pe_lst (pa_cons pe_str (pa_cons pe_str pa_nil)))))
    pss_nil)
  (pss_cons (ps_if (pt_cmpR op_eq (pe_ix ix_tup (pv 0) pe_int (fun _ _ => rfl)) pe_str (nomark _))
    (pss_one (ps_ret (pe_lst (pa_cons pe_str pa_nil))))
    pss_nil)
  (pss_cons (ps_if (PW.pt (pw_or (pt_cmpR op_eq (pe_ix ix_tup (pv 0) pe_int (fun _ _ => rfl)) pe_str (nomark _)) (pw_or1 (pt_cmpR op_eq (pe_ix ix_tup (pv 0) pe_int (fun _ _ => rfl)) pe_str (nomark _)))))
    (pss_one (ps_ret (pe_lst (pa_cons (pe_ix ix_tup (pv 0) pe_int (fun _ _ => rfl)) pa_nil))))
    pss_nil)
  (pss_one (ps_ret (pe_lst pa_nil)))))), ?_⟩
  obtain ⟨a, xs, rfl, hs⟩ := sa_head hv
  cases S with
  | say n =>
    have hs : SqT K H a (.str "say" :: xs) := hs
    refine ⟨_, rfl, a, _, 0, _, rfl, rfl, hs, at_head, rfl, _, rfl, ite2 (fun c => absurd (of_decide_eq_true c) (by decide +kernel)) (fun _ => ?_)⟩
    refine ⟨_, rfl, a, _, 0, _, rfl, rfl, hs, at_head, rfl, _, rfl, ite2 (fun c => absurd (of_decide_eq_true c) (by decide +kernel)) (fun _ => ?_)⟩
    refine ⟨_, rfl, a, _, 0, _, rfl, rfl, hs, at_head, rfl, _, rfl, ite2 (fun c => absurd (of_decide_eq_true c) (by decide +kernel)) (fun _ => ?_)⟩
    refine ⟨_, rfl, a, _, 0, _, rfl, rfl, hs, at_head, rfl, _, rfl, ite2 (fun c => absurd (of_decide_eq_true c) (by decide +kernel)) (fun _ => ?_)⟩
    exact ⟨by show 0 ≤ sizeLine; decide, fun p hp => q p _ (same_up hp _) hp upd_same⟩
  | not A =>
    have hs : SqT K H a (.str "not" :: xs) := hs
    refine ⟨_, rfl, a, _, 0, _, rfl, rfl, hs, at_head, rfl, _, rfl, ite2 (fun c => absurd (of_decide_eq_true c) (by decide +kernel)) (fun _ => ?_)⟩
    refine ⟨_, rfl, a, _, 0, _, rfl, rfl, hs, at_head, rfl, _, rfl, ite2 (fun c => absurd (of_decide_eq_true c) (by decide +kernel)) (fun _ => ?_)⟩
    refine ⟨_, rfl, a, _, 0, _, rfl, rfl, hs, at_head, rfl, _, rfl, ite2 (fun c => absurd (of_decide_eq_true c) (by decide +kernel)) (fun _ => ?_)⟩
    refine ⟨_, rfl, a, _, 0, _, rfl, rfl, hs, at_head, rfl, _, rfl, ite2 (fun _ => ?_) (fun c => absurd (by decide +kernel) c)⟩
    exact ⟨_, rfl, a, _, 0, _, rfl, rfl, hs, at_head, by show 1 ≤ sizeLine; decide, fun p hp => q p _ (same_up hp _) hp upd_same⟩
  | bin o A B =>
    cases o with
    | and =>
      have hs : SqT K H a (.str "and" :: xs) := hs
      refine ⟨_, rfl, a, _, 0, _, rfl, rfl, hs, at_head, rfl, _, rfl, ite2 (fun _ => ?_) (fun c => absurd (by decide +kernel) c)⟩
      exact ⟨by show 2 ≤ sizeLine; decide, fun p hp => q p _ (same_up hp _) hp upd_same⟩
    | or =>
      have hs : SqT K H a (.str "or" :: xs) := hs
      refine ⟨_, rfl, a, _, 0, _, rfl, rfl, hs, at_head, rfl, _, rfl, ite2 (fun c => absurd (of_decide_eq_true c) (by decide +kernel)) (fun _ => ?_)⟩
      refine ⟨_, rfl, a, _, 0, _, rfl, rfl, hs, at_head, rfl, _, rfl, ite2 (fun _ => ?_) (fun c => absurd (by decide +kernel) c)⟩
      exact ⟨by show 1 ≤ sizeLine; decide, fun p hp => q p _ (same_up hp _) hp upd_same⟩
    | iff =>
      have hs : SqT K H a (.str "if" :: xs) := hs
      refine ⟨_, rfl, a, _, 0, _, rfl, rfl, hs, at_head, rfl, _, rfl, ite2 (fun c => absurd (of_decide_eq_true c) (by decide +kernel)) (fun _ => ?_)⟩
      refine ⟨_, rfl, a, _, 0, _, rfl, rfl, hs, at_head, rfl, _, rfl, ite2 (fun c => absurd (of_decide_eq_true c) (by decide +kernel)) (fun _ => ?_)⟩
      refine ⟨_, rfl, a, _, 0, _, rfl, rfl, hs, at_head, rfl, _, rfl, ite2 (fun _ => ?_) (fun c => absurd (by decide +kernel) c)⟩
      exact ⟨_, rfl, a, _, 0, _, rfl, rfl, hs, at_head, by show 1 ≤ sizeLine; decide, fun p hp => q p _ (same_up hp _) hp upd_same⟩
theorem ok_doubts_of {f : Addr} {fd : FuncData} (F : Fun K "doubts_of" "doubts_of" s_doubts_of f fd) (T : Top w K mg) : FnOk P w K mg base CX0 1 f fd ["saying"] (spWords K) := by
  refine F.ok sc_doubts_of (fun vs H Q E h => ?_) (fun cdv A outer s H vs Q E hr h => ?_)
  · obtain ⟨v, S, rfl, _⟩ := h
    rfl
  have hu := hu_of hr
  obtain ⟨v, S, rfl, hv, q⟩ := h
  obtain ⟨dw, gW, ⟨t1, k1, q1⟩, ⟨t2, k2, q2⟩, ⟨t3, k3, q3⟩, ⟨t4, k4, q4⟩, t5, k5, q5⟩ := T.g_WORDS
  refine ⟨_, (pss_one (ps_ret (pe_callTy call_list_of (by rfl) T.z_list (by decide +kernel) (pa_cons (pe_ix ix_kdict (pe_glob rfl gW (v := .ref dw) rfl) (pe_ix ix_tup (pv 0) pe_int (fun _ _ => rfl)) (fun _ _ => rfl)) pa_nil)))), ?_⟩
  obtain ⟨a, xs, rfl, hs⟩ := sa_head hv
  refine ⟨_, rfl, a, _, 0, _, rfl, rfl, hs, at_head, ?_⟩
  cases S with
  | say n => exact ⟨dw, _, _, rfl, rfl, k1, t1, _, rfl, .inr (SqT.kon q1), fun p hp => q p _ (same_up hp _) hp upd_same⟩
  | not A => exact ⟨dw, _, _, rfl, rfl, k2, t2, _, rfl, .inr (SqT.kon q2), fun p hp => q p _ (same_up hp _) hp upd_same⟩
  | bin o A B =>
    cases o with
    | and => exact ⟨dw, _, _, rfl, rfl, k3, t3, _, rfl, .inr (SqT.kon q3), fun p hp => q p _ (same_up hp _) hp upd_same⟩
    | or => exact ⟨dw, _, _, rfl, rfl, k4, t4, _, rfl, .inr (SqT.kon q4), fun p hp => q p _ (same_up hp _) hp upd_same⟩
    | iff => exact ⟨dw, _, _, rfl, rfl, k5, t5, _, rfl, .inr (SqT.kon q5), fun p hp => q p _ (same_up hp _) hp upd_same⟩
end
/-- what a word may be -/
theorem word_cases {wd : Str} {S : Say} (h : wd = "begin" ∨ wd ∈ words S) : wd = "begin" ∨ (∃ A, S = .not A ∧ wd = "not") ∨ (∃ A B, S = .bin .and A B ∧ (wd = "left" ∨ wd = "right")) ∨ (∃ A B, S = .bin .or A B ∧ wd = "which") ∨ (∃ A B, S = .bin .iff A B ∧ wd = "if") := by
  rcases h with h | h
  · exact .inl h
  · cases S with
    | say n => exact absurd h (by simp [words])
    | not A => exact .inr (.inl ⟨A, rfl, by simpa [words] using h⟩)
    | bin o A B =>
      cases o with
      | and => exact .inr (.inr (.inl ⟨A, B, rfl, by simpa [words] using h⟩))
      | or => exact .inr (.inr (.inr (.inl ⟨A, B, rfl, by simpa [words] using h⟩)))
      | iff => exact .inr (.inr (.inr (.inr ⟨A, B, rfl, by simpa [words] using h⟩)))
theorem lit_ne {x y : Str} (h : x ≠ y) : decide (V.str x = V.str y) = false := decide_eq_false fun e => h (V.str.inj e)
theorem nb1 : ¬ (Str.ofString "not" = Str.ofString "begin") := by decide +kernel
theorem nb2 : ¬ (Str.ofString "left" = Str.ofString "begin") := by decide +kernel
theorem nb3 : ¬ (Str.ofString "right" = Str.ofString "begin") := by decide +kernel
theorem nb4 : ¬ (Str.ofString "which" = Str.ofString "begin") := by decide +kernel
theorem nb5 : ¬ (Str.ofString "if" = Str.ofString "begin") := by decide +kernel
theorem nb6 : ¬ (Str.ofString "right" = Str.ofString "left") := by decide +kernel
theorem an_begin (S : Say) : answers "begin" S = [S] := by unfold answers; rw [if_pos rfl]
theorem an_not (A : Say) : answers "not" (.not A) = [] := by unfold answers; rw [if_neg nb1]
theorem an_left (A B : Say) : answers "left" (.bin .and A B) = [A] := by unfold answers; rw [if_neg nb2]; exact if_pos rfl
theorem an_right (A B : Say) : answers "right" (.bin .and A B) = [B] := by unfold answers; rw [if_neg nb3]; exact if_neg nb6
theorem an_which (A B : Say) : answers "which" (.bin .or A B) = two A B := by unfold answers; rw [if_neg nb4]
theorem an_if (A B : Say) : answers "if" (.bin .iff A B) = [B] := by unfold answers; rw [if_neg nb5]
theorem sd_begin (S : Say) : saidBy "begin" S = none := by unfold saidBy; rw [if_pos rfl]
theorem sd_not (A : Say) : saidBy "not" (.not A) = some A := by unfold saidBy; rw [if_neg nb1]
theorem sd_and {wd : Str} (h : wd = "left" ∨ wd = "right") (A B : Say) : saidBy wd (.bin .and A B) = none := by
  rcases h with rfl | rfl
  · unfold saidBy; rw [if_neg nb2]
  · unfold saidBy; rw [if_neg nb3]
theorem sd_which (A B : Say) : saidBy "which" (.bin .or A B) = none := by unfold saidBy; rw [if_neg nb4]
theorem sd_if (A B : Say) : saidBy "if" (.bin .iff A B) = some A := by unfold saidBy; rw [if_neg nb5]
theorem DnAll.one {K : PySem.W.Frag} {H : Hp} {v : V} {d : ND} (h : Dn K H v d) : DnAll K H [v] [d] := .cons h .nil
/-- addresses and data, told as a list -/
theorem dn_zip {K : PySem.W.Frag} {H : Hp} : ∀ (L : List (Addr × ND)), (∀ p ∈ L, Dn K H (.ref p.1) p.2) → DnAll K H (L.map fun q => V.ref q.1) (L.map (·.2))
  | [], _ => .nil
  | p :: L, h => .cons (h p List.mem_cons_self) (dn_zip L fun q hq => h q (List.mem_cons_of_mem _ hq))
theorem perm2 {α : Type} [DecidableEq α] {x y u v : α} (h : [u, v].Perm [x, y]) : (u = x ∧ v = y) ∨ (u = y ∧ v = x) := by
  have hu : u ∈ [x, y] := h.mem_iff.mp (by simp)
  by_cases e : u = x
  · subst e
    exact .inl ⟨rfl, by simpa using (List.perm_cons u).mp h⟩
  · have e2 : u = y := by simpa [e] using hu
    subst e2
    have q := (h.trans (List.Perm.swap u x [])) 
    exact .inr ⟨rfl, by simpa using (List.perm_cons u).mp q⟩
section
variable {P : Program} {w : World} {K : PySem.W.Frag} {mg : Str → Option Value} {base : Heap}
theorem ok_said_by {f : Addr} {fd : FuncData} (F : Fun K "said_by" "said_by" s_said_by f fd) (T : Top w K mg) : FnOk P w K mg base CX0 1 f fd ["doubt"] (spSaid K) := by
  refine F.ok sc_said_by (fun vs H Q E h => ?_) (fun cdv A outer s H vs Q E hr h => ?_)
  · obtain ⟨t, wd, v, S, rfl, _⟩ := h
    rfl
  have hu := hu_of hr
  obtain ⟨t, wd, v, S, rfl, ht, hv, hw, q⟩ := h
  refine ⟨_, (pss_cons (ps_asg (pv 0) (pg_tup rfl (pgs_cons (pg_name (i := 1) sc_said_by.nd rfl (Or.inl rfl)) (pgs_cons (pg_name (i := 2) sc_said_by.nd rfl (Or.inl rfl)) pgs_nil))))
  (pss_cons (ps_if (PW.pt (pw_or (pt_cmpR op_eq (pv 1) pe_str (nomark _)) (pw_or1 (pt_cmpR op_eq (pv 1) pe_str (nomark _)))))
    (pss_one (ps_ret (pe_ix ix_tup (pv 2) pe_int (fun _ _ => rfl))))
    pss_nil)
  (pss_one (ps_ret pe_non)))), ?_⟩
  refine ⟨_, rfl, t, _, rfl, ht, rfl, _, _, rfl, _, _, rfl, rfl, ?_⟩
  rcases word_cases hw with rfl | ⟨A, rfl, rfl⟩ | ⟨A, B, rfl, hlr⟩ | ⟨A, B, rfl, rfl⟩ | ⟨A, B, rfl, rfl⟩
  · refine ⟨_, rfl, rfl, _, rfl, ite2 (fun c => absurd (of_decide_eq_true c) (by decide +kernel)) (fun _ => ?_)⟩
    refine ⟨_, rfl, rfl, _, rfl, ite2 (fun c => absurd (of_decide_eq_true c) (by decide +kernel)) (fun _ => ?_)⟩
    exact q .non (by rw [sd_begin]; rfl)
  · obtain ⟨a, x, rfl, hs, hx⟩ := sa_not hv
    refine ⟨_, rfl, rfl, _, rfl, ite2 (fun c => absurd (of_decide_eq_true c) (by decide +kernel)) (fun _ => ?_)⟩
    refine ⟨_, rfl, rfl, _, rfl, ite2 (fun _ => ?_) (fun c => absurd (by decide +kernel) c)⟩
    exact ⟨_, rfl, a, _, 1, _, rfl, rfl, hs, at_one, q x (by rw [sd_not]; exact hx)⟩
  · rcases hlr with rfl | rfl
    · refine ⟨_, rfl, rfl, _, rfl, ite2 (fun c => absurd (of_decide_eq_true c) (by decide +kernel)) (fun _ => ?_)⟩
      refine ⟨_, rfl, rfl, _, rfl, ite2 (fun c => absurd (of_decide_eq_true c) (by decide +kernel)) (fun _ => ?_)⟩
      exact q .non (by rw [sd_and (.inl rfl)]; rfl)
    · refine ⟨_, rfl, rfl, _, rfl, ite2 (fun c => absurd (of_decide_eq_true c) (by decide +kernel)) (fun _ => ?_)⟩
      refine ⟨_, rfl, rfl, _, rfl, ite2 (fun c => absurd (of_decide_eq_true c) (by decide +kernel)) (fun _ => ?_)⟩
      exact q .non (by rw [sd_and (.inr rfl)]; rfl)
  · refine ⟨_, rfl, rfl, _, rfl, ite2 (fun c => absurd (of_decide_eq_true c) (by decide +kernel)) (fun _ => ?_)⟩
    refine ⟨_, rfl, rfl, _, rfl, ite2 (fun c => absurd (of_decide_eq_true c) (by decide +kernel)) (fun _ => ?_)⟩
    exact q .non (by rw [sd_which]; rfl)
  · obtain ⟨a, x, y, rfl, hs, hx, hy⟩ := sa_bin hv
    refine ⟨_, rfl, rfl, _, rfl, ite2 (fun _ => ?_) (fun c => absurd (by decide +kernel) c)⟩
    exact ⟨_, rfl, a, _, 1, _, rfl, rfl, hs, at_one, q x (by rw [sd_if]; exact hx)⟩
theorem ok_answers_to {f : Addr} {fd : FuncData} (F : Fun K "answers_to" "answers_to" s_answers_to f fd) (T : Top w K mg) : FnOk P w K mg base CX0 1 f fd ["doubt"] (spAnswers K) := by
  refine F.ok sc_answers_to (fun vs H Q E h => ?_) (fun cdv A outer s H vs Q E hr h => ?_)
  · obtain ⟨t, wd, v, S, rfl, _⟩ := h
    rfl
  have hu := hu_of hr
  obtain ⟨t, wd, v, S, rfl, ht, hv, hw, q⟩ := h
  refine ⟨_, (pss_cons (ps_asg (pv 0) (pg_tup rfl (pgs_cons (pg_name (i := 1) sc_answers_to.nd rfl (Or.inl rfl)) (pgs_cons (pg_name (i := 2) sc_answers_to.nd rfl (Or.inl rfl)) pgs_nil))))
  (pss_cons (ps_if (pt_cmpR op_eq (pv 1) pe_str (nomark _))
    (pss_one (ps_ret (pe_lst (pa_cons (pv 2) pa_nil))))
    pss_nil)
  (pss_cons (ps_if (pt_cmpR op_eq (pv 1) pe_str (nomark _))
    (pss_one (ps_ret (pe_lst (pa_cons (pe_ix ix_tup (pv 2) pe_int (fun _ _ => rfl)) pa_nil))))
    pss_nil)
  (pss_cons (ps_if (pt_cmpR op_eq (pv 1) pe_str (nomark _))
    (pss_one (ps_ret (pe_lst pa_nil)))
    pss_nil)
  (pss_cons (ps_if (pt_cmpR op_eq (pv 1) pe_str (nomark _))
    (pss_one (ps_ret (pe_callB (cr_sortedSN rfl hr.u60) (by rfl) T.z_sorted (by decide +kernel) (pa_cons (pe_callTy (cr_setN rfl hr.units) (by rfl) T.z_set (by decide +kernel) (pa_cons (pe_slice sl_tup (pv 2) (po_some pe_int) po_none) pa_nil)) pa_nil))))
    pss_nil)
  (pss_one (ps_ret (pe_lst (pa_cons (pe_ix ix_tup (pv 2) pe_int (fun _ _ => rfl)) pa_nil))))))))), ?_⟩
  refine ⟨_, rfl, t, _, rfl, ht, rfl, _, _, rfl, _, _, rfl, rfl, ?_⟩
  rcases word_cases hw with rfl | ⟨A, rfl, rfl⟩ | ⟨A, B, rfl, hlr⟩ | ⟨A, B, rfl, rfl⟩ | ⟨A, B, rfl, rfl⟩
  · refine ⟨_, rfl, rfl, _, rfl, ite2 (fun _ => ?_) (fun c => absurd (by decide +kernel) c)⟩
    exact ⟨_, rfl, by show 1 ≤ sizeLine; decide, fun p hp => q p _ _ (same_up hp _) hp upd_same (by rw [an_begin]; exact .one (hv.1.tk (Tk.new hp)))⟩
  · refine ⟨_, rfl, rfl, _, rfl, ite2 (fun c => absurd (of_decide_eq_true c) (by decide +kernel)) (fun _ => ?_)⟩
    refine ⟨_, rfl, rfl, _, rfl, ite2 (fun c => absurd (of_decide_eq_true c) (by decide +kernel)) (fun _ => ?_)⟩
    refine ⟨_, rfl, rfl, _, rfl, ite2 (fun _ => ?_) (fun c => absurd (by decide +kernel) c)⟩
    exact ⟨by show 0 ≤ sizeLine; decide, fun p hp => q p _ _ (same_up hp _) hp upd_same (by rw [an_not]; exact .nil)⟩
  · obtain ⟨a, x, y, rfl, hs, hx, hy⟩ := sa_bin hv.1
    rcases hlr with rfl | rfl
    · refine ⟨_, rfl, rfl, _, rfl, ite2 (fun c => absurd (of_decide_eq_true c) (by decide +kernel)) (fun _ => ?_)⟩
      refine ⟨_, rfl, rfl, _, rfl, ite2 (fun _ => ?_) (fun c => absurd (by decide +kernel) c)⟩
      exact ⟨_, rfl, a, _, 1, _, rfl, rfl, hs, at_one, by show 1 ≤ sizeLine; decide, fun p hp => q p _ _ (same_up hp _) hp upd_same (by rw [an_left]; exact .one (hx.tk (Tk.new hp)))⟩
    · refine ⟨_, rfl, rfl, _, rfl, ite2 (fun c => absurd (of_decide_eq_true c) (by decide +kernel)) (fun _ => ?_)⟩
      refine ⟨_, rfl, rfl, _, rfl, ite2 (fun c => absurd (of_decide_eq_true c) (by decide +kernel)) (fun _ => ?_)⟩
      refine ⟨_, rfl, rfl, _, rfl, ite2 (fun c => absurd (of_decide_eq_true c) (by decide +kernel)) (fun _ => ?_)⟩
      refine ⟨_, rfl, rfl, _, rfl, ite2 (fun c => absurd (of_decide_eq_true c) (by decide +kernel)) (fun _ => ?_)⟩
      exact ⟨_, rfl, a, _, 2, _, rfl, rfl, hs, at_two, by show 1 ≤ sizeLine; decide, fun p hp => q p _ _ (same_up hp _) hp upd_same (by rw [an_right]; exact .one (hy.tk (Tk.new hp)))⟩
  · obtain ⟨a, x, y, rfl, hs, hx, hy, hsh, dx, dy⟩ := hv.or
    refine ⟨_, rfl, rfl, _, rfl, ite2 (fun c => absurd (of_decide_eq_true c) (by decide +kernel)) (fun _ => ?_)⟩
    refine ⟨_, rfl, rfl, _, rfl, ite2 (fun c => absurd (of_decide_eq_true c) (by decide +kernel)) (fun _ => ?_)⟩
    refine ⟨_, rfl, rfl, _, rfl, ite2 (fun c => absurd (of_decide_eq_true c) (by decide +kernel)) (fun _ => ?_)⟩
    refine ⟨_, rfl, rfl, _, rfl, ite2 (fun _ => ?_) (fun c => absurd (by decide +kernel) c)⟩
    have k1 : Tk H (upd H t (.tup [])) → True := fun _ => trivial
    refine ⟨_, rfl, _, rfl, a, _, rfl, hs, (by show ¬ (HT.sIx 3 0 (some 1) = 0 ∧ HT.sIx 3 3 none = 3); decide), fun tp htp => ?_⟩
    have S1 : Same H (upd H tp (.tup [.ref x, .ref y])) := same_up htp _
    have hx1 := hx.tk (Tk.same S1)
    have hy1 := hy.tk (Tk.same S1)
    refine ⟨tp, [(x, A.nd), (y, B.nd)], rfl, SqT.of upd_same, ?_, ?_, by show 2 < 64; decide, fun sa L hsa sub all => ?_⟩
    · intro p hp
      rcases List.mem_cons.mp hp with e | hp
      · rw [e]; exact hx1
      · rw [List.mem_singleton.mp hp]; exact hy1
    · have e1 := Say.nd_dep A
      have e2 := Say.nd_dep B
      refine ⟨fun p hp => ?_, fun p hp r hr' => ?_⟩
      · rcases List.mem_cons.mp hp with e | hp
        · rw [e]; show A.nd.depth ≤ 50; omega
        · rw [List.mem_singleton.mp hp]; show B.nd.depth ≤ 50; omega
      · rcases hsh with e | ⟨e8, f8⟩
        · refine .inl ?_
          have ep : p.1 = x := by
            rcases List.mem_cons.mp hp with e | hp
            · rw [e]
            · rw [List.mem_singleton.mp hp]; exact e.symm
          have er : r.1 = x := by
            rcases List.mem_cons.mp hr' with e | hp
            · rw [e]
            · rw [List.mem_singleton.mp hp]; exact e.symm
          rw [ep, er]
        · refine .inr ⟨?_, ?_⟩
          · rcases List.mem_cons.mp hp with e | hp
            · rw [e]; show A.nd.depth ≤ 8; omega
            · rw [List.mem_singleton.mp hp]; show B.nd.depth ≤ 8; omega
          · rcases List.mem_cons.mp hr' with e | hp
            · rw [e]; show A.nd.depth ≤ 8; omega
            · rw [List.mem_singleton.mp hp]; show B.nd.depth ≤ 8; omega
    have S2 : Same (upd H tp (.tup [.ref x, .ref y])) (upd (upd H tp (.tup [.ref x, .ref y])) sa (SetNO w sa L)) := same_up hsa _
    have inL : ∀ p ∈ L, p = (x, A.nd) ∨ p = (y, B.nd) := fun p hp => by simpa using sub p hp
    have dnL : ∀ p ∈ L, Dn K (upd (upd H tp (.tup [.ref x, .ref y])) sa (SetNO w sa L)) (.ref p.1) p.2 := fun p hp => by
      rcases inL p hp with e | e
      · rw [e]; exact hx1.tk (Tk.same S2)
      · rw [e]; exact hy1.tk (Tk.same S2)
    have eL : ∃ Ss : List Say, L.map (·.2) = Ss.map Say.nd ∧ ∀ S ∈ Ss, S = A ∨ S = B := by
      clear dnL all S2 hsa
      induction L with
      | nil => exact ⟨[], rfl, fun S hS => nomatch hS⟩
      | cons p L ih =>
        obtain ⟨Ss, e1, e2⟩ := ih (fun r hr => sub r (List.mem_cons_of_mem _ hr)) (fun r hr => inL r (List.mem_cons_of_mem _ hr))
        rcases inL p List.mem_cons_self with e | e
        · exact ⟨A :: Ss, by rw [List.map_cons, List.map_cons, e1, e], fun S hS => (List.mem_cons.mp hS).elim .inl (e2 S)⟩
        · exact ⟨B :: Ss, by rw [List.map_cons, List.map_cons, e1, e], fun S hS => (List.mem_cons.mp hS).elim .inr (e2 S)⟩
    obtain ⟨Ss, e1, e2⟩ := eL
    have srt : Srtb (L.map (·.2)) := by
      rw [e1]
      refine srtb_say fun S hS => ?_
      rcases e2 S hS with e | e
      · rw [e]; omega
      · rw [e]; omega
    refine ⟨sa, L, rfl, upd_same, dnL, srt, fun L' p pm pw hp => ?_⟩
    have S3 : Same (upd (upd H tp (.tup [.ref x, .ref y])) sa (SetNO w sa L)) (upd (upd (upd H tp (.tup [.ref x, .ref y])) sa (SetNO w sa L)) p (.lst (L'.map fun q => V.ref q.1))) := same_up hp _
    refine q p (L'.map fun q => V.ref q.1) _ (S1.trans (S2.trans S3)) ?_ upd_same ?_
    · exact S1.free (S2.free hp)
    · have dn' := dn_zip L' fun r hr' => (dnL r (pm.mem_iff.mp hr')).tk (Tk.same S3)
      obtain ⟨r1, r2⟩ := two_rise A B
      have e3 : L'.map (·.2) = (two A B).map Say.nd := by
        refine rise_eq pw r1 fun z => ?_
        rw [r2, (pm.map (·.2)).mem_iff]
        refine ⟨fun hz => ?_, fun hz => ?_⟩
        · obtain ⟨r, hr', er⟩ := List.mem_map.mp hz
          rcases inL r hr' with e | e
          · exact .inl (by rw [← er, e])
          · exact .inr (by rw [← er, e])
        · rcases hz with e | e
          · rw [e]; exact all (x, A.nd) (by simp)
          · rw [e]; exact all (y, B.nd) (by simp)
      rw [an_which, ← e3]
      exact dn'
  · obtain ⟨a, x, y, rfl, hs, hx, hy⟩ := sa_bin hv.1
    refine ⟨_, rfl, rfl, _, rfl, ite2 (fun c => absurd (of_decide_eq_true c) (by decide +kernel)) (fun _ => ?_)⟩
    refine ⟨_, rfl, rfl, _, rfl, ite2 (fun c => absurd (of_decide_eq_true c) (by decide +kernel)) (fun _ => ?_)⟩
    refine ⟨_, rfl, rfl, _, rfl, ite2 (fun c => absurd (of_decide_eq_true c) (by decide +kernel)) (fun _ => ?_)⟩
    refine ⟨_, rfl, rfl, _, rfl, ite2 (fun c => absurd (of_decide_eq_true c) (by decide +kernel)) (fun _ => ?_)⟩
    exact ⟨_, rfl, a, _, 2, _, rfl, rfl, hs, at_two, by show 1 ≤ sizeLine; decide, fun p hp => q p _ _ (same_up hp _) hp upd_same (by rw [an_if]; exact .one (hy.tk (Tk.new hp)))⟩
theorem ok_answers {f : Addr} {fd : FuncData} (F : Fun K "_law_answers" "_law_answers" s_law_answers f fd) (T : Top w K mg) : FnOk P w K mg base CX0 1 f fd ["_law_doubt"] (spAnswers K) := by
  refine F.ok sc_law_answers (fun vs H Q E h => ?_) (fun cdv A outer s H vs Q E hr h => ?_)
  · obtain ⟨t, wd, v, S, rfl, _⟩ := h
    rfl
  have hu := hu_of hr
  obtain ⟨t, wd, v, S, rfl, ht, hv, hw, q⟩ := h
  refine ⟨_, (pss_cons (ps_asg (pv 0) (pg_tup rfl (pgs_cons (pg_name (i := 1) sc_law_answers.nd rfl (Or.inl rfl)) (pgs_cons (pg_name (i := 2) sc_law_answers.nd rfl (Or.inl rfl)) pgs_nil))))
  (pss_cons (ps_if (pt_cmpR op_eq (pv 1) pe_str (nomark _))
    (pss_one (ps_ret (pe_lst (pa_cons (pv 2) pa_nil))))
    pss_nil)
  (pss_cons (ps_if (pt_cmpR op_eq (pv 1) pe_str (nomark _))
    (pss_one (ps_ret (pe_lst (pa_cons (pe_ix ix_tup (pv 2) pe_int (fun _ _ => rfl)) pa_nil))))
    pss_nil)
  (pss_cons (ps_if (PW.pt (pw_or (pt_cmpR op_eq (pv 1) pe_str (nomark _)) (pw_or1 (pt_cmpR op_eq (pv 1) pe_str (nomark _)))))
    (pss_one (ps_ret (pe_lst (pa_cons (pe_ix ix_tup (pv 2) pe_int (fun _ _ => rfl)) pa_nil))))
    pss_nil)
  (pss_cons (ps_if (pt_cmpR op_eq (pv 1) pe_str (nomark _))
    (pss_cons (ps_set (i := 3) sc_law_answers.nd rfl (Or.inl rfl) (pe_callB (cr_sortN hr.u43) (by rfl) T.z_sorted (by decide +kernel) (pa_cons (pe_lst (pa_cons (pe_ix ix_tup (pv 2) pe_int (fun _ _ => rfl)) (pa_cons (pe_ix ix_tup (pv 2) pe_int (fun _ _ => rfl)) pa_nil))) pa_nil)))
    (pss_one (ps_ret (pe_slice sl_list (pv 3) po_none (po_some (pe_op op_add pe_int (pe_callTy call_int1 (by rfl) T.z_int (by decide +kernel) (pa_cons (pe_cmpR (op_neD hr.units) (pe_ix ix_list (pv 3) pe_int (fun _ _ => rfl)) (pe_ix ix_list (pv 3) pe_int (fun _ _ => rfl)) (nomark _)) pa_nil))))))))
    pss_nil)
  (pss_one (ps_ret (pe_lst pa_nil)))))))), ?_⟩
  refine ⟨_, rfl, t, _, rfl, ht, rfl, _, _, rfl, _, _, rfl, rfl, ?_⟩
  rcases word_cases hw with rfl | ⟨A, rfl, rfl⟩ | ⟨A, B, rfl, hlr⟩ | ⟨A, B, rfl, rfl⟩ | ⟨A, B, rfl, rfl⟩
  · refine ⟨_, rfl, rfl, _, rfl, ite2 (fun _ => ?_) (fun c => absurd (by decide +kernel) c)⟩
    exact ⟨_, rfl, by show 1 ≤ sizeLine; decide, fun p hp => q p _ _ (same_up hp _) hp upd_same (by rw [an_begin]; exact .one (hv.1.tk (Tk.new hp)))⟩
  · refine ⟨_, rfl, rfl, _, rfl, ite2 (fun c => absurd (of_decide_eq_true c) (by decide +kernel)) (fun _ => ?_)⟩
    refine ⟨_, rfl, rfl, _, rfl, ite2 (fun c => absurd (of_decide_eq_true c) (by decide +kernel)) (fun _ => ?_)⟩
    refine ⟨_, rfl, rfl, _, rfl, ite2 (fun c => absurd (of_decide_eq_true c) (by decide +kernel)) (fun _ => ?_)⟩
    refine ⟨_, rfl, rfl, _, rfl, ite2 (fun c => absurd (of_decide_eq_true c) (by decide +kernel)) (fun _ => ?_)⟩
    refine ⟨_, rfl, rfl, _, rfl, ite2 (fun c => absurd (of_decide_eq_true c) (by decide +kernel)) (fun _ => ?_)⟩
    exact ⟨by show 0 ≤ sizeLine; decide, fun p hp => q p _ _ (same_up hp _) hp upd_same (by rw [an_not]; exact .nil)⟩
  · obtain ⟨a, x, y, rfl, hs, hx, hy⟩ := sa_bin hv.1
    rcases hlr with rfl | rfl
    · refine ⟨_, rfl, rfl, _, rfl, ite2 (fun c => absurd (of_decide_eq_true c) (by decide +kernel)) (fun _ => ?_)⟩
      refine ⟨_, rfl, rfl, _, rfl, ite2 (fun _ => ?_) (fun c => absurd (by decide +kernel) c)⟩
      exact ⟨_, rfl, a, _, 1, _, rfl, rfl, hs, at_one, by show 1 ≤ sizeLine; decide, fun p hp => q p _ _ (same_up hp _) hp upd_same (by rw [an_left]; exact .one (hx.tk (Tk.new hp)))⟩
    · refine ⟨_, rfl, rfl, _, rfl, ite2 (fun c => absurd (of_decide_eq_true c) (by decide +kernel)) (fun _ => ?_)⟩
      refine ⟨_, rfl, rfl, _, rfl, ite2 (fun c => absurd (of_decide_eq_true c) (by decide +kernel)) (fun _ => ?_)⟩
      refine ⟨_, rfl, rfl, _, rfl, ite2 (fun _ => ?_) (fun c => absurd (by decide +kernel) c)⟩
      exact ⟨_, rfl, a, _, 2, _, rfl, rfl, hs, at_two, by show 1 ≤ sizeLine; decide, fun p hp => q p _ _ (same_up hp _) hp upd_same (by rw [an_right]; exact .one (hy.tk (Tk.new hp)))⟩
  · obtain ⟨a, x, y, rfl, hs, hx, hy, hsh, dx, dy⟩ := hv.or
    refine ⟨_, rfl, rfl, _, rfl, ite2 (fun c => absurd (of_decide_eq_true c) (by decide +kernel)) (fun _ => ?_)⟩
    refine ⟨_, rfl, rfl, _, rfl, ite2 (fun c => absurd (of_decide_eq_true c) (by decide +kernel)) (fun _ => ?_)⟩
    refine ⟨_, rfl, rfl, _, rfl, ite2 (fun c => absurd (of_decide_eq_true c) (by decide +kernel)) (fun _ => ?_)⟩
    refine ⟨_, rfl, rfl, _, rfl, ite2 (fun c => absurd (of_decide_eq_true c) (by decide +kernel)) (fun _ => ?_)⟩
    refine ⟨_, rfl, rfl, _, rfl, ite2 (fun _ => ?_) (fun c => absurd (by decide +kernel) c)⟩
    refine ⟨_, rfl, a, _, 1, _, rfl, rfl, hs, at_one, _, rfl, a, _, 2, _, rfl, rfl, hs, at_two, by show 2 ≤ sizeLine; decide, fun lp hlp => ?_⟩
    have S1 : Same H (upd H lp (.lst [.ref x, .ref y])) := same_up hlp _
    have hx1 := hx.tk (Tk.same S1)
    have hy1 := hy.tk (Tk.same S1)
    have hin : ∀ u ∈ ([.ref x, .ref y] : List V), ∃ d ∈ [A, B].map Say.nd, Dn K (upd H lp (.lst [.ref x, .ref y])) u d := fun u hu' => by
      rcases List.mem_cons.mp hu' with e | hu'
      · rw [e]; exact ⟨A.nd, by simp, hx1⟩
      · rw [List.mem_singleton.mp hu']; exact ⟨B.nd, by simp, hy1⟩
    refine ⟨lp, [.ref x, .ref y], [A, B].map Say.nd, rfl, SqL.of upd_same, hin, srtb_say (fun S hS => by
      rcases List.mem_cons.mp hS with e | hS
      · rw [e]; omega
      · rw [List.mem_singleton.mp hS]; omega), fun ys p pm pw hp => ?_⟩
    have S2 : Same (upd H lp (.lst [.ref x, .ref y])) (upd (upd H lp (.lst [.ref x, .ref y])) p (.lst ys)) := same_up hp _
    obtain ⟨u, v, rfl⟩ : ∃ u v, ys = [u, v] := by
      have hl := pm.length_eq
      match ys, hl with
      | [u, v], _ => exact ⟨u, v, rfl⟩
    obtain ⟨pw1, _⟩ := List.pairwise_cons.mp pw
    have key : ∃ U W : Say, Dn K (upd H lp (.lst [.ref x, .ref y])) u U.nd ∧ Dn K (upd H lp (.lst [.ref x, .ref y])) v W.nd ∧ (two A B = two U W) ∧ U.dep ≤ 9 ∧ W.dep ≤ 9 := by
      rcases perm2 pm with ⟨rfl, rfl⟩ | ⟨rfl, rfl⟩
      · exact ⟨A, B, hx1, hy1, rfl, dx, dy⟩
      · refine ⟨B, A, hy1, hx1, ?_, dy, dx⟩
        rcases ltD_tri A.nd B.nd with e | e | e
        · rw [two_lt e, two_gt e]
        · rw [Say.nd_inj _ _ e]
        · rw [two_gt e, two_lt e]
    obtain ⟨U, W, hU, hW, etw, dU, dW⟩ := key
    have hle : ltD W.nd U.nd = false := pw1 v (by simp) U.nd W.nd hU hW
    have hU2 := hU.tk (Tk.same S2)
    have hW2 := hW.tk (Tk.same S2)
    have eU := Say.nd_dep U
    have eW := Say.nd_dep W
    have sq : SqL K (upd (upd H lp (.lst [.ref x, .ref y])) p (.lst [u, v])) p [u, v] := SqL.of upd_same
    refine ⟨_, rfl, _, rfl, p, _, 0, _, rfl, rfl, sq, at_head, _, rfl, p, _, 1, _, rfl, rfl, sq, at_one, U.nd.data, W.nd.data, Dn.dp _ _ hU2, Dn.dp _ _ hW2, hU2.shaped (by omega), hW2.shaped (by omega), ?_⟩
    rw [eqv_dec]
    by_cases e : U.nd = W.nd
    · rw [decide_eq_true e]
      refine .inr ⟨false, rfl, _, _, rfl, rfl, _, rfl, p, _, rfl, sq, fun p2 hp2 => ?_⟩
      have S3 : Same (upd (upd H lp (.lst [.ref x, .ref y])) p (.lst [u, v])) (upd (upd (upd H lp (.lst [.ref x, .ref y])) p (.lst [u, v])) p2 (.lst (cutV [u, v] none (some 1)))) := same_up hp2 _
      refine q p2 _ _ (S1.trans (S2.trans S3)) (S1.free (S2.free hp2)) upd_same ?_
      rw [an_which, etw, Say.nd_inj _ _ e, two_same]
      exact .one (by rw [← e]; exact hU2.tk (Tk.same S3))
    · rw [decide_eq_false e]
      refine .inr ⟨true, rfl, _, _, rfl, rfl, _, rfl, p, _, rfl, sq, fun p2 hp2 => ?_⟩
      have S3 : Same (upd (upd H lp (.lst [.ref x, .ref y])) p (.lst [u, v])) (upd (upd (upd H lp (.lst [.ref x, .ref y])) p (.lst [u, v])) p2 (.lst (cutV [u, v] none (some 2)))) := same_up hp2 _
      refine q p2 _ _ (S1.trans (S2.trans S3)) (S1.free (S2.free hp2)) upd_same ?_
      have lt : ltD U.nd W.nd = true := by
        rcases ltD_tri U.nd W.nd with z | z | z
        · exact z
        · exact absurd z e
        · rw [hle] at z; cases z
      rw [an_which, etw, two_lt lt]
      exact .cons (hU2.tk (Tk.same S3)) (.one (hW2.tk (Tk.same S3)))
  · obtain ⟨a, x, y, rfl, hs, hx, hy⟩ := sa_bin hv.1
    refine ⟨_, rfl, rfl, _, rfl, ite2 (fun c => absurd (of_decide_eq_true c) (by decide +kernel)) (fun _ => ?_)⟩
    refine ⟨_, rfl, rfl, _, rfl, ite2 (fun c => absurd (of_decide_eq_true c) (by decide +kernel)) (fun _ => ?_)⟩
    refine ⟨_, rfl, rfl, _, rfl, ite2 (fun c => absurd (of_decide_eq_true c) (by decide +kernel)) (fun _ => ?_)⟩
    refine ⟨_, rfl, rfl, _, rfl, ite2 (fun _ => ?_) (fun c => absurd (by decide +kernel) c)⟩
    exact ⟨_, rfl, a, _, 2, _, rfl, rfl, hs, at_two, by show 1 ≤ sizeLine; decide, fun p hp => q p _ _ (same_up hp _) hp upd_same (by rw [an_if]; exact .one (hy.tk (Tk.new hp)))⟩
end
end TC


namespace TC
open PySem PySem.Spec PyProof.Rows L2
/-! ### the parts of a saying -/
def Say.kids : Say → List Say
  | .say _ => []
  | .not A => [A]
  | .bin _ A B => [A, B]
theorem kid_less {A S : Say} (h : A ∈ S.kids) {R : Say} (hr : Say.Sub R A) : Say.Less R S := by
  cases S with
  | say n => exact absurd h (by simp [Say.kids])
  | not B => rw [List.mem_singleton.mp (show A ∈ [B] from h)] at hr; exact hr
  | bin o B C =>
    rcases List.mem_cons.mp (show A ∈ [B, C] from h) with e | h
    · rw [e] at hr; exact .inl hr
    · rw [List.mem_singleton.mp h] at hr; exact .inr hr
theorem kid_dep {A S : Say} (h : A ∈ S.kids) : A.dep + 1 ≤ S.dep := by
  cases S with
  | say n => exact absurd h (by simp [Say.kids])
  | not B => rw [List.mem_singleton.mp (show A ∈ [B] from h)]; exact Nat.le_refl _
  | bin o B C =>
    rcases List.mem_cons.mp (show A ∈ [B, C] from h) with e | h
    · rw [e]; show B.dep + 1 ≤ max B.dep C.dep + 1; omega
    · rw [List.mem_singleton.mp h]; show C.dep + 1 ≤ max B.dep C.dep + 1; omega
theorem sum_kids (S : Say) : (S.kids.map Say.size).sum + 1 = S.size := by
  cases S with
  | say n => rfl
  | not A => show (A.size + 0) + 1 = A.size + 1; omega
  | bin o A B => show (A.size + (B.size + 0)) + 1 = A.size + B.size + 1; omega
theorem sub_dep {P : Say} : ∀ {S : Say}, Say.Sub P S → P.dep ≤ S.dep
  | .say n, q => by rw [show P = .say n from q] <;> exact Nat.le_refl _
  | .not a, q => by
    rcases q with e | q
    · rw [e] <;> exact Nat.le_refl _
    · have := sub_dep q
      show P.dep ≤ a.dep + 1
      omega
  | .bin o a b, q => by
    rcases q with e | q | q
    · rw [e] <;> exact Nat.le_refl _
    · have := sub_dep q
      show P.dep ≤ max a.dep b.dep + 1
      omega
    · have := sub_dep q
      show P.dep ≤ max a.dep b.dep + 1
      omega
theorem sa_kids {K : PySem.W.Frag} {H : Hp} {v : V} {S : Say} (h : Dn K H v S.nd) (hn : S.word ≠ "say") : ∃ a zs, v = .ref a ∧ SqT K H a (.str S.word :: zs) ∧ DnAll K H zs (S.kids.map Say.nd) ∧ 1 ≤ zs.length ∧ zs.length ≤ 2 := by
  cases S with
  | say n => exact absurd rfl hn
  | not A => obtain ⟨a, x, e, hs, hx⟩ := sa_not h; exact ⟨a, _, e, hs, .one hx, Nat.le_refl _, by simp⟩
  | bin o A B => obtain ⟨a, x, y, e, hs, hx, hy⟩ := sa_bin h; exact ⟨a, _, e, hs, .cons hx (.one hy), by simp, Nat.le_refl _⟩
theorem DnAll.get {K : PySem.W.Frag} {H : Hp} : ∀ {vs : List V} {ds : List ND} {i : Nat} {v : V}, DnAll K H vs ds → vs[i]? = some v → ∃ d, ds[i]? = some d ∧ Dn K H v d
  | _, _, _, _, .nil, e => by simp at e
  | _, _, 0, _, .cons h _, e => by
    simp at e
    subst e
    exact ⟨_, rfl, h⟩
  | _, _, i + 1, v, .cons _ t, e => by
    obtain ⟨d, h1, h2⟩ := DnAll.get (i := i) (v := v) t (by simpa using e)
    exact ⟨d, by simpa using h1, h2⟩
theorem dn_all {K : PySem.W.Frag} {H : Hp} {n : Nat} : ∀ {vs : List V}, (∀ v ∈ vs, ∃ d, Dn K H v d ∧ d.depth ≤ n) → ∃ ds, DnAll K H vs ds ∧ NestedKey.depthAll ds ≤ n
  | [], _ => ⟨[], .nil, by simp [NestedKey.depthAll]⟩
  | v :: vs, h => by
    obtain ⟨d, h1, h2⟩ := h v List.mem_cons_self
    obtain ⟨ds, h3, h4⟩ := dn_all fun u hu => h u (List.mem_cons_of_mem _ hu)
    exact ⟨d :: ds, .cons h1 h3, by simp only [NestedKey.depthAll]; omega⟩
theorem cut_tail {x : V} : ∀ {zs : List V}, 1 ≤ zs.length → zs.length ≤ 2 → cutV (x :: zs) (some 1) none = zs ∧ ¬ (HT.sIx (x :: zs).length 0 (some 1) = 0 ∧ HT.sIx (x :: zs).length (x :: zs).length none = (x :: zs).length)
  | [y], _, _ => ⟨rfl, by show ¬ (HT.sIx 2 0 (some 1) = 0 ∧ HT.sIx 2 2 none = 2); decide⟩
  | [y, z], _, _ => ⟨rfl, by show ¬ (HT.sIx 3 0 (some 1) = 0 ∧ HT.sIx 3 3 none = 3); decide⟩
  | [], h, _ => absurd h (by simp)
  | _ :: _ :: _ :: _, _, h => absurd h (by simp)
def PartOf (K : PySem.W.Frag) (H : Hp) (v : V) (S : Say) (y : V) : Prop := y = v ∨ ∃ R, Say.Less R S ∧ Dn K H y R.nd
theorem PartOf.tk {K : PySem.W.Frag} {H H' : Hp} {v y : V} {S : Say} (p : PartOf K H v S y) (t : Tk H H') : PartOf K H' v S y := p.imp id fun ⟨R, h1, h2⟩ => ⟨R, h1, h2.tk t⟩
theorem PartOf.say {K : PySem.W.Frag} {H : Hp} {v y : V} {S : Say} (p : PartOf K H v S y) (h : Dn K H v S.nd) : ∃ R, Say.Sub R S ∧ Dn K H y R.nd := by
  rcases p with rfl | ⟨R, h1, h2⟩
  · exact ⟨S, .refl S, h⟩
  · exact ⟨R, h1.sub, h2⟩
def spParts (K : PySem.W.Frag) (n : Nat) : Sp := fun vs H Q _ => ∃ (v : V) (S : Say), vs = [v] ∧ Dn K H v S.nd ∧ S.dep ≤ n ∧ S.dep ≤ 30 ∧ S.size ≤ 50 ∧
  ∀ (p : Addr) (ys : List V) (H' : Hp), Same H H' → H p = none → H' p = some (.lst ys) → (∀ y ∈ ys, PartOf K H' v S y) → ys.length ≤ S.size → Q (.ref p) H'
section
variable {P : Program} {w : World} {K : PySem.W.Frag} {mg : Str → Option Value} {base : Heap}
theorem parts_step {n : Nat} {f : Addr} {fd : FuncData} (F : Fun K "_law_all_parts" "_law_all_parts" s_law_all_parts f fd) (T : Top w K mg) (C_law_all_parts : C8.Cal P w K mg base (n + 1) "_law_all_parts" (spParts K n) []) :
    FnOk P w K mg base CX0 (n + 2) f fd ["_law_saying_here"] (spParts K (n + 1)) := by
  refine F.ok sc_law_all_parts (fun vs H Q E h => ?_) (fun cdv A outer s H vs Q E hr h => ?_)
  · obtain ⟨v, S, rfl, _⟩ := h
    rfl
  have hu := hu_of hr
  obtain ⟨v, S, rfl, hv, hdn, h30, h50, q⟩ := h
  refine ⟨_, (pss_cons (ps_set (i := 1) sc_law_all_parts.nd rfl (Or.inr rfl) (pe_lst (pa_cons (pv 0) pa_nil)))
  (C8.pss_cut (ps_if (pt_cmpR op_ne (pe_ix ix_tup (pv 0) pe_int (fun _ _ => rfl)) pe_str (nomark _))
    (pss_one (ps_for PassesOwn.never rfl (pi_tup (pe_slice sl_tup (pv 0) (po_some pe_int) po_none)) (pg_name (i := 2) sc_law_all_parts.nd rfl (Or.inl rfl))
      (pss_one (ps_set (i := 1) sc_law_all_parts.nd rfl (Or.inr rfl) (pe_op op_cat (pv 1) (pe_lc (own := [("_law_one", 3)]) (g := gName 3)  (by rfl) sc_law_all_parts.nd (pi_list (C8.pe_c C_law_all_parts hr (by omega) rfl (pa_cons (pv 2) pa_nil))) (blkOk_by (N := sc_law_all_parts_N) (sc := defScope s_law_all_parts) (by decide +kernel)) (fun _ _ _ _ _ => pg_name (i := 3) sc_law_all_parts.nd rfl (Or.inl rfl)) (fun _ _ _ _ _ => pts_one (pt_cmpR (show OpR _ (compareOp .NotIn) (rNotInD K) from op_notInD hr.u65) (pv 3) (pv 1) (by rfl))) (fun _ _ _ _ _ => (pv 3))))))))
    pss_nil)
  (pss_one (ps_ret (pe_callB (cr_sortN hr.u43) (by rfl) T.z_sorted (by decide +kernel) (pa_cons (pv 1) pa_nil)))))), ?_⟩
  have hp1 := Say.size_pos S
  refine ⟨_, rfl, by show 1 ≤ sizeLine; decide, fun fp hfp => ?_⟩
  have S0 : Same H (upd H fp (.lst [v])) := same_up hfp _
  have srt : ∀ (H' : Hp) (fs : List V), Same H H' → (∀ y ∈ fs, PartOf K H' v S y) → ∃ ds, (∀ x ∈ fs, ∃ d ∈ ds, Dn K H' x d) ∧ Srtb ds := by
    intro H' fs e hfs
    have hall : ∀ x ∈ fs, ∃ R : Say, Say.Sub R S ∧ Dn K H' x R.nd := fun x hx => (hfs x hx).say (hv.tk (Tk.same e))
    have : ∃ Ss : List Say, (∀ x ∈ fs, ∃ R ∈ Ss, Dn K H' x R.nd) ∧ ∀ R ∈ Ss, R.dep ≤ 40 := by
      clear hfs
      induction fs with
      | nil => exact ⟨[], (fun x hx => nomatch hx), (fun R hR => nomatch hR)⟩
      | cons z fs ih =>
        obtain ⟨Ss, h1, h2⟩ := ih fun x hx => hall x (List.mem_cons_of_mem _ hx)
        obtain ⟨R, h3, h4⟩ := hall z List.mem_cons_self
        refine ⟨R :: Ss, fun x hx => ?_, fun R' hR' => ?_⟩
        · rcases List.mem_cons.mp hx with e | hx
          · exact ⟨R, List.mem_cons_self, e ▸ h4⟩
          · obtain ⟨R', h5, h6⟩ := h1 x hx
            exact ⟨R', List.mem_cons_of_mem _ h5, h6⟩
        · rcases List.mem_cons.mp hR' with e | h
          · have := sub_dep h3
            rw [e]
            omega
          · exact h2 R' h
    obtain ⟨Ss, h1, h2⟩ := this
    refine ⟨Ss.map Say.nd, fun x hx => ?_, srtb_say h2⟩
    obtain ⟨R, h3, h4⟩ := h1 x hx
    exact ⟨R.nd, List.mem_map.mpr ⟨R, h3, rfl⟩, h4⟩
  obtain ⟨a, xs, rfl, hs⟩ := sa_head hv
  refine ⟨fun σ H' => ∃ (fp : Addr) (fs : List V) (v2 v3 : Option V), σ = [some (.ref a), some (.ref fp), v2, v3] ∧ H' fp = some (.lst fs) ∧ (∀ y ∈ fs, PartOf K H' (.ref a) S y) ∧ fs.length ≤ S.size ∧ Same H H', ?_, ?_⟩
  · have hs0 : SqT K (upd H fp (.lst [.ref a])) a (.str S.word :: xs) := (Tk.same S0).sqt hs
    refine ⟨_, rfl, a, _, 0, _, rfl, rfl, hs0, at_head, rfl, _, rfl, ?_⟩
    by_cases hw : S.word = "say"
    · rw [hw]
      refine iteNS rfl ?_
      exact ⟨fp, [.ref a], none, none, rfl, upd_same, fun y hy => .inl (List.mem_singleton.mp hy), hp1, S0⟩
    · have ed : (!decide (V.str S.word = V.str "say")) = true := by
        rw [lit_ne hw]
        rfl
      rw [ed]
      refine iteT ?_
      obtain ⟨a', zs, e, hs2, hz, z1, z2⟩ := sa_kids (hv.tk (Tk.same S0)) hw
      cases e
      obtain ⟨hcut, hnot⟩ := cut_tail (x := .str S.word) z1 z2
      refine ⟨_, rfl, _, rfl, a, _, rfl, hs2, hnot, fun tp htp => ?_⟩
      rw [hcut]
      have S1 : Same (upd H fp (.lst [.ref a])) (upd (upd H fp (.lst [.ref a])) tp (.tup zs)) := same_up htp _
      have hz1 : DnAll K (upd (upd H fp (.lst [.ref a])) tp (.tup zs)) zs (S.kids.map Say.nd) := DnAll.mono (Tk.same S1) _ _ hz
      have hlz : zs.length = S.kids.length := by
        have := hz.len
        rwa [List.length_map] at this
      have S01 := S0.trans S1
      have hfp1 : (upd (upd H fp (.lst [.ref a])) tp (.tup zs)) fp = some (.lst [.ref a]) := S1 _ _ upd_same
      have htp1 : (upd (upd H fp (.lst [.ref a])) tp (.tup zs)) tp = some (.tup zs) := upd_same
      generalize upd (upd H fp (.lst [.ref a])) tp (.tup zs) = H1 at hz1 S01 hfp1 htp1 ⊢
      clear hz S1 hs2 htp hs0 S0 hcut
      refine ⟨tp, rfl, ⟨_, SqT.of htp1⟩, ?_⟩
      refine for_tup (K := K) (a := tp) (xs := zs) (fun i σ H' => ∃ (fp : Addr) (fs : List V) (v2 v3 : Option V), σ = [some (.ref a), some (.ref fp), v2, v3] ∧ H' fp = some (.lst fs) ∧ (∀ y ∈ fs, PartOf K H' (.ref a) S y) ∧ fs.length ≤ 1 + ((S.kids.take i).map Say.size).sum ∧ Same H1 H')
        ⟨fp, _, none, none, rfl, hfp1, fun y hy => .inl (List.mem_singleton.mp hy), by show 1 ≤ 1 + _; omega, Same.refl _⟩ ?_ ?_ ?_
      · rintro i σ H' _ ⟨_, _, _, _, _, _, _, _, e⟩
        exact SqT.of (e _ _ htp1)
      · rintro i x σ H2 hi ⟨fp2, fs, v2, v3, rfl, hf2, hfs, hlen, S2⟩
        have hil : i < S.kids.length := by
          rw [← hlz]
          exact (List.getElem?_eq_some_iff.mp hi).1
        obtain ⟨d, hd, hx⟩ := hz1.get hi
        rw [List.getElem?_map, List.getElem?_eq_getElem hil] at hd
        have ed : (S.kids[i]).nd = d := Option.some.inj hd
        subst ed
        have hmem : S.kids[i] ∈ S.kids := List.getElem_mem hil
        have hkd := kid_dep hmem
        have hks : ((S.kids.take (i + 1)).map Say.size).sum = ((S.kids.take i).map Say.size).sum + (S.kids[i]).size := by
          rw [List.take_succ, List.getElem?_eq_getElem hil, List.map_append, List.sum_append]
          show _ + ((S.kids[i]).size + 0) = _
          omega
        have hle : ((S.kids.take (i + 1)).map Say.size).sum + 1 ≤ S.size := by
          rw [← sum_kids S]
          have e := List.take_append_drop (i + 1) S.kids
          have e2 : (S.kids.map Say.size).sum = ((S.kids.take (i + 1)).map Say.size).sum + ((S.kids.drop (i + 1)).map Say.size).sum := by
            rw [← List.sum_append, ← List.map_append, e]
          omega
        have hsz : (S.kids[i]).size ≤ 50 := by omega
        refine ⟨_, rfl, _, rfl, x, S.kids[i], rfl, hx.tk (Tk.same S2), by omega, by omega, hsz, fun p ys H3 S3 hp hy hys hyl => ?_⟩
        refine ⟨p, rfl, ⟨_, SqL.of hy⟩, fun D hD => ?_⟩
        have S4 : Same H3 (upd H3 D (.lst [])) := same_up hD _
        have hyk : ∀ y ∈ ys, ∃ R, Say.Sub R S.kids[i] ∧ Dn K H3 y R.nd := fun y h => (hys y h).say ((hx.tk (Tk.same S2)).tk (Tk.same S3))
        refine lc_list (K := K) (a := p) (xs := ys) (fun j H' => ∃ acc : List V, H' D = some (.lst acc) ∧ (∀ y ∈ acc, y ∈ ys) ∧ acc.length ≤ j ∧ Same H3 H') ⟨[], upd_same, (fun y h => nomatch h), Nat.le_refl _, S4⟩ ?_ ?_ ?_
        · rintro j H' _ ⟨_, _, _, _, e⟩
          exact SqL.of (e _ _ hy)
        · rintro j y H4 hj ⟨acc, hacc, hsub, hal, S5⟩
          have hym : y ∈ ys := List.mem_of_getElem? hj
          have hjl := (List.getElem?_eq_some_iff.mp hj).1
          obtain ⟨R, hR, hyd⟩ := hyk y hym
          have hRd := sub_dep hR
          have hfs4 : ∀ z ∈ fs, ∃ d, Dn K H4 z d ∧ d.depth ≤ 30 := fun z hz => by
            obtain ⟨R', h1, h2⟩ := (hfs z hz).say (hv.tk (Tk.same (S01.trans S2)))
            have := sub_dep h1
            have e := Say.nd_dep R'
            exact ⟨R'.nd, (h2.tk (Tk.same S3)).tk (Tk.same S5), by omega⟩
          obtain ⟨ds, hds, hdd⟩ := dn_all hfs4
          have hyd4 := hyd.tk (Tk.same S5)
          have eR := Say.nd_dep R
          have hf4 : H4 fp2 = some (.lst fs) := S5 _ _ (S3 _ _ hf2)
          refine ⟨rfl, _, rfl, _, rfl, R.nd.data, NestedKey.datas ds, Dn.dp _ _ hyd4, .lst (SqL.of hf4) (DnAll.dp _ _ hds), hyd4.shaped (by omega), hds.shaped (by omega), _, rfl, ?_⟩
          have keep : Same H3 (upd H4 D (.lst (acc ++ [y]))) := by
            intro b u e
            have hb : b ≠ D := ne_of_none e hD
            rw [upd_ne hb]
            exact S5 b u e
          refine ite2 (fun _ => ?_) (fun _ => ⟨acc, hacc, hsub, by omega, S5⟩)
          refine ⟨_, rfl, acc, hacc, small1000 (by omega), acc ++ [y], upd_same, fun z hz => ?_, by rw [List.length_append]; simp; omega, keep⟩
          rcases List.mem_append.mp hz with h | h
          · exact hsub z h
          · rw [List.mem_singleton.mp h]; exact hym
        · rintro H4 ⟨acc, hacc, hsub, hal, S5⟩
          have hf4 : H4 fp2 = some (.lst fs) := S5 _ _ (S3 _ _ hf2)
          refine ⟨fp2, D, fs, acc, rfl, rfl, hf4, hacc, Nat.le_of_lt (small1000 (by omega)), fun np hnp => ?_⟩
          have S6 : Same H4 (upd H4 np (.lst (fs ++ acc))) := same_up hnp _
          have S36 := S3.trans (S5.trans S6)
          refine ⟨np, fs ++ acc, _, _, rfl, upd_same, fun y hy2 => ?_, ?_, S2.trans S36⟩
          · rcases List.mem_append.mp hy2 with h | h
            · exact (hfs y h).tk (Tk.same S36)
            · obtain ⟨R, hR, hyd⟩ := hyk y (hsub y h)
              exact .inr ⟨R, kid_less hmem hR, hyd.tk (Tk.same (S5.trans S6))⟩
          · rw [List.length_append, hks]
            omega
      · rintro σ H2 ⟨fp2, fs, v2, v3, rfl, hf2, hfs, hlen, S2⟩
        refine ⟨fp2, fs, v2, v3, rfl, hf2, hfs, ?_, S01.trans S2⟩
        rw [hlz, List.take_length] at hlen
        have := sum_kids S
        omega
  · rintro σ H2 ⟨fp2, fs, v2, v3, rfl, hf2, hfs, hlen, S2⟩
    obtain ⟨ds, h1, h2⟩ := srt H2 fs S2 hfs
    refine ⟨_, rfl, fp2, fs, ds, rfl, SqL.of hf2, h1, h2, fun ys p pm _ hp => ?_⟩
    have S3 : Same H2 (upd H2 p (.lst ys)) := same_up hp _
    exact q p ys _ (S2.trans S3) (S2.free hp) upd_same (fun y hy => (hfs y (pm.mem_iff.mp hy)).tk (Tk.same S3)) (by rw [pm.length_eq]; exact hlen)
theorem ok_parts (T : Top w K mg) : ∀ n : Nat, C8.Cal P w K mg base (n + 1) "_law_all_parts" (spParts K n) []
  | 0 => T.d_law_all_parts.cal fun f fd F => by
    have no : ∀ vs H Q E, ¬ spParts K 0 vs H Q E := fun vs H Q E h => by
      obtain ⟨v, S, _, _, h1, _⟩ := h
      have : 1 ≤ S.dep := by cases S <;> simp [Say.dep]
      omega
    exact ⟨fun vs H Q E h => absurd h (no vs H Q E), fun A outer s H args us vs Q E _ _ _ _ h => absurd h (no vs H Q E)⟩
  | n + 1 => T.d_law_all_parts.cal fun f fd F => parts_step F T (ok_parts T n)
end
end TC


namespace TC
open PySem PySem.Spec PyProof.Rows L2
/-! ### alike -/
theorem Same.sqt {K : PySem.W.Frag} {H H' : Hp} (e : Same H H') {a : Addr} {xs : List V} (h : SqT K H a xs) : SqT K H' a xs := (Tk.same e).sqt h
mutual
theorem Dp.same {K : PySem.W.Frag} {H H' : Hp} (t : Same H H') : ∀ (d : PyData) (v : V), Dp K H v d → Dp K H' v d
  | .none, _, h => by cases h; exact .non
  | .bool b, _, h => by cases h; exact .bl b
  | .int i, _, h => by cases h; exact .int i
  | .str x, _, h => by cases h; exact .str x
  | .list ds, _, h => by
    cases h with
    | lst hs ha => exact .lst (t.seq hs) (DpAll.same t ds _ ha)
  | .tuple ds, _, h => by
    cases h with
    | tup hs ha => exact .tup (Same.sqt t hs) (DpAll.same t ds _ ha)
  | .dict _, _, h => by cases h
theorem DpAll.same {K : PySem.W.Frag} {H H' : Hp} (t : Same H H') : ∀ (ds : List PyData) (vs : List V), DpAll K H vs ds → DpAll K H' vs ds
  | [], _, h => by cases h; exact .nil
  | d :: ds, _, h => by
    cases h with
    | cons h1 h2 => exact .cons (Dp.same t d _ h1) (DpAll.same t ds _ h2)
end
theorem DpAll.get {K : PySem.W.Frag} {H : Hp} : ∀ {vs : List V} {ds : List PyData} {i : Nat} {v : V}, DpAll K H vs ds → vs[i]? = some v → ∃ d, ds[i]? = some d ∧ Dp K H v d
  | _, _, _, _, .nil, e => by simp at e
  | _, _, 0, _, .cons h _, e => by
    simp at e
    subst e
    exact ⟨_, rfl, h⟩
  | _, _, i + 1, v, .cons _ t, e => by
    obtain ⟨d, h1, h2⟩ := DpAll.get (i := i) (v := v) t (by simpa using e)
    exact ⟨d, by simpa using h1, h2⟩
theorem DpAll.len {K : PySem.W.Frag} {H : Hp} : ∀ {vs : List V} {ds : List PyData}, DpAll K H vs ds → vs.length = ds.length
  | _, _, .nil => rfl
  | _, _, .cons _ t => by rw [List.length_cons, List.length_cons, DpAll.len t]
theorem txts_at : ∀ {ds : List PyData} {i : Nat} {d : PyData}, txts ds = true → ds[i]? = some d → txt d = true ∧ d.depth ≤ PyData.depthAll ds
  | [], _, _, _, e => by simp at e
  | d :: ds, 0, _, h, e => by
    simp only [txts, Bool.and_eq_true] at h
    simp at e
    subst e
    exact ⟨h.1, by simp only [PyData.depthAll]; omega⟩
  | d :: ds, i + 1, e', h, e => by
    simp only [txts, Bool.and_eq_true] at h
    obtain ⟨h1, h2⟩ := txts_at (i := i) h.2 (by simpa using e)
    exact ⟨h1, by simp only [PyData.depthAll]; omega⟩
def spAlike (K : PySem.W.Frag) (n : Nat) : Sp := fun vs H Q _ => ∃ (x y : V) (pd : PyData), vs = [x, y] ∧ Dp K H x pd ∧ Dp K H y pd ∧ txt pd = true ∧ pd.depth < n ∧ n ≤ 40 ∧ ∀ H', Same H H' → Q (.bl true) H'
theorem kit_no {K : PySem.W.Frag} {a : String} (h1 : kitB a "list" = some false) (h2 : kitB a "tuple" = some false) : PySem.W.kitAny K (.type a) [.type "list", .type "tuple"] = some false :=
  kitAny_cons (kit_ty h1) (fun _ => kitAny_cons (kit_ty h2) (fun _ => rfl) (fun z => Bool.noConfusion z)) fun z => Bool.noConfusion z
theorem kit_l {K : PySem.W.Frag} : PySem.W.kitAny K (.type "list") [.type "list", .type "tuple"] = some true :=
  kitAny_cons (b := true) (kit_ty (by decide +kernel)) (fun z => Bool.noConfusion z) fun _ => rfl
theorem kit_t {K : PySem.W.Frag} : PySem.W.kitAny K (.type "tuple") [.type "list", .type "tuple"] = some true :=
  kitAny_cons (b := false) (kit_ty (by decide +kernel)) (fun _ => kitAny_cons (b := true) (kit_ty (by decide +kernel)) (fun z => Bool.noConfusion z) fun _ => rfl) (fun z => Bool.noConfusion z)
theorem repl_snoc (i : Nat) : (List.replicate i true).map V.bl ++ [V.bl true] = (List.replicate (i + 1) true).map V.bl := by
  rw [List.replicate_succ', List.map_append] <;> rfl
theorem repl_all (i : Nat) : (List.replicate i true).all id = true := by
  induction i with
  | zero => rfl
  | succ i ih => rw [List.replicate_succ, List.all_cons, ih]; rfl
section
variable {P : Program} {w : World} {K : PySem.W.Frag} {mg : Str → Option Value} {base : Heap}
theorem alike_step {n : Nat} {f : Addr} {fd : FuncData} (F : Fun K "_law_alike" "_law_alike" s_law_alike f fd) (T : Top w K mg) (C_law_alike : C8.Cal P w K mg base n "_law_alike" (spAlike K n) []) :
    FnOk P w K mg base CX0 (n + 1) f fd ["_law_found", "_law_due"] (spAlike K (n + 1)) := by
  refine F.ok sc_law_alike (fun vs H Q E h => ?_) (fun cdv A outer s H vs Q E hr h => ?_)
  · obtain ⟨x, y, pd, rfl, _⟩ := h
    rfl
  have hu := hu_of hr
  obtain ⟨x, y, pd, rfl, hx, hy, ht, hd, hn, q⟩ := h
  refine ⟨_, (pss_cons (ps_if (pt_val (pe_callB call_isiT (by rfl) T.z_isinstance (by decide +kernel) (pa_cons (pv 1) (pa_cons (pe_tup (pa_cons (pe_bltn (by rfl) T.z_list (by decide +kernel) (v := .ty "list") rfl) (pa_cons (pe_bltn (by rfl) T.z_tuple (by decide +kernel) (v := .ty "tuple") rfl) pa_nil))) pa_nil))))
    (pss_cons (ps_if (PW.pt (pw_or (pt_cmpR op_ne (pe_callB call_isi (by rfl) T.z_isinstance (by decide +kernel) (pa_cons (pv 0) (pa_cons (pe_bltn (by rfl) T.z_list (by decide +kernel) (v := .ty "list") rfl) pa_nil))) (pe_callB call_isi (by rfl) T.z_isinstance (by decide +kernel) (pa_cons (pv 1) (pa_cons (pe_bltn (by rfl) T.z_list (by decide +kernel) (v := .ty "list") rfl) pa_nil))) (nomark _)) (pw_or1 (pt_cmpR op_ne (pe_callB call_isi (by rfl) T.z_isinstance (by decide +kernel) (pa_cons (pv 0) (pa_cons (pe_bltn (by rfl) T.z_tuple (by decide +kernel) (v := .ty "tuple") rfl) pa_nil))) (pe_callB call_isi (by rfl) T.z_isinstance (by decide +kernel) (pa_cons (pv 1) (pa_cons (pe_bltn (by rfl) T.z_tuple (by decide +kernel) (v := .ty "tuple") rfl) pa_nil))) (nomark _)))))
      (pss_one (ps_ret pe_bl))
      pss_nil)
    (pss_one (ps_ret (pe_and (pe_cmpR op_eq (pe_callB call_len_seq (by rfl) T.z_len PySem.boot_len (pa_cons (pv 0) pa_nil)) (pe_callB call_len_seq (by rfl) T.z_len PySem.boot_len (pa_cons (pv 1) pa_nil)) (nomark _)) (pe_one (pe_callB (cr_all rfl) (by rfl) T.z_all (by decide +kernel) (pa_cons (pe_lc (own := [("_law_one", 2), ("_law_other", 3)]) (g := gTup K 2 (gCons (gName 2) (gCons (gName 3) gNil))) (tt := tYes) (by rfl) sc_law_alike.nd (RZ.pi_zipA (by rfl) T.z_zip (pa_cons (pv 0) (pa_cons (pv 1) pa_nil))) (blkOk_by (N := sc_law_alike_N) (sc := defScope s_law_alike) (by decide +kernel)) (fun _ _ _ _ _ => pg_tup rfl (pgs_cons (pg_name (i := 2) sc_law_alike.nd rfl (Or.inl rfl)) (pgs_cons (pg_name (i := 3) sc_law_alike.nd rfl (Or.inl rfl)) pgs_nil))) (fun _ _ _ _ _ => pts_nil) (fun _ _ _ _ _ => (C8.pe_c C_law_alike hr (by omega) rfl (pa_cons (pv 2) (pa_cons (pv 3) pa_nil))))) pa_nil)))))))
    pss_nil)
  (pss_one (ps_ret (pe_and (pe_callB call_isi (by rfl) T.z_isinstance (by decide +kernel) (pa_cons (pv 0) (pa_cons (pe_bltn (by rfl) T.z_str (by decide +kernel) (v := .ty "str") rfl) pa_nil))) (pe_one (pe_cmpR (op_eqD hr.units) (pv 0) (pv 1) (nomark _))))))), ?_⟩
  cases hx with
  | str x =>
    cases hy
    refine ⟨_, rfl, by show 2 ≤ sizeLine; decide, fun tp htp => ?_⟩
    refine ⟨_, tp, _, _, _, _, rfl, upd_same, .cons (.ty _) (.cons (.ty _) .nil), .base (.str _), kit_no (by decide +kernel) (by decide +kernel), _, rfl, iteF ?_⟩
    refine ⟨_, rfl, _, _, _, _, _, rfl, .ty _, .base (.str _), kit_ty (by decide +kernel), _, rfl, iteT ?_⟩
    refine ⟨_, rfl, _, rfl, _, _, .str _, .str _, ?_, ?_, ?_⟩
    · show (PyData.canLay0 (.str x) && decide ((PyData.str x).depth ≤ 64)) = true
      rw [txt_lay _ ht, decide_eq_true (by simp only [PyData.depth]; omega)]
      rfl
    · show (PyData.canLay0 (.str x) && decide ((PyData.str x).depth ≤ 64)) = true
      rw [txt_lay _ ht, decide_eq_true (by simp only [PyData.depth]; omega)]
      rfl
    · have e : PyData.eqv (.str x) (.str x) = true := by simp [PyData.eqv]
      rw [e]
      exact q _ (same_up htp _)
  | @lst a xs ds hs ha =>
    cases hy with
    | @lst b ys _ hs2 hb =>
      have hl : xs.length = ys.length := (DpAll.len ha).trans (DpAll.len hb).symm
      simp only [txt, Bool.and_eq_true] at ht
      have ht' : txts ds = true := ht.2
      have h100 : xs.length ≤ 100 := by rw [DpAll.len ha]; exact of_decide_eq_true ht.1
      have hd' : PyData.depthAll ds + 1 < n + 1 := by simpa only [PyData.depth] using hd
      refine ⟨_, rfl, by show 2 ≤ sizeLine; decide, fun tp htp => ?_⟩
      have S1 : Same H (upd H tp (.tup [.ty "list", .ty "tuple"])) := same_up htp _
      have hx1 := S1.seq hs
      have hy1 := S1.seq hs2
      have hxa := DpAll.same S1 _ _ ha
      have hya := DpAll.same S1 _ _ hb
      refine ⟨_, tp, _, _, _, _, rfl, upd_same, .cons (.ty _) (.cons (.ty _) .nil), SqL.tyx hy1, kit_l, _, rfl, iteT ?_⟩
      refine ⟨_, rfl, _, _, _, _, _, rfl, .ty _, SqL.tyx hx1, kit_ty (r := true) (by decide +kernel), _, rfl, _, _, _, _, _, rfl, .ty _, SqL.tyx hy1, kit_ty (r := true) (by decide +kernel), rfl, _, rfl, ?_⟩
      refine ite2 (fun c => absurd c (by decide)) (fun _ => ?_)
      refine ⟨_, rfl, _, _, _, _, _, rfl, .ty _, SqL.tyx hx1, kit_ty (b := "tuple") (r := false) (by decide +kernel), _, rfl, _, _, _, _, _, rfl, .ty _, SqL.tyx hy1, kit_ty (b := "tuple") (r := false) (by decide +kernel), rfl, _, rfl, ?_⟩
      refine ite2 (fun c => absurd c (by decide)) (fun _ => ?_)
      refine ⟨_, rfl, a, _, rfl, .inl hx1, _, rfl, b, _, rfl, .inl hy1, rfl, _, rfl, ?_⟩
      rw [decide_eq_true (by rw [hl])]
      refine iteT ?_
      refine ⟨_, rfl, _, rfl, a, b, xs, ys, rfl, .inl ⟨hx1, hy1, fun D hD => ?_⟩⟩
      have S2 : Same (upd H tp (.tup [.ty "list", .ty "tuple"])) (upd (upd H tp (.tup [.ty "list", .ty "tuple"])) D (.lst [])) := same_up hD _
      refine lc_zipL hl (fun i H' => H' D = some (.lst ((List.replicate i true).map V.bl)) ∧ Same (upd H tp (.tup [.ty "list", .ty "tuple"])) H') ⟨upd_same, S2⟩ ?_ ?_ ?_
      · rintro i H' _ ⟨_, e⟩
        exact ⟨e.seq hx1, e.seq hy1⟩
      · rintro i u v T' H' hu' hv' ⟨h1, e⟩ hT'
        obtain ⟨d, hd1, hdu⟩ := DpAll.get hxa hu'
        obtain ⟨d2, hd2, hdv⟩ := DpAll.get hya hv'
        rw [hd1] at hd2
        cases hd2
        obtain ⟨t1, t2⟩ := txts_at ht' hd1
        have S3 : Same H' (upd H' T' (.tup [u, v])) := same_up hT' _
        have S13 := e.trans S3
        refine ⟨T', _, rfl, SqT.of upd_same, rfl, _, _, rfl, _, _, rfl, rfl, rfl, ?_⟩
        refine ⟨_, rfl, _, rfl, _, _, d, rfl, Dp.same S13 _ _ hdu, Dp.same S13 _ _ hdv, t1, by omega, by omega, fun H2 S4 => ?_⟩
        have il := (List.getElem?_eq_some_iff.mp hu').1
        refine ⟨_, S4 _ _ (S3 _ _ h1), ?_, ?_, ?_⟩
        · rw [List.length_map, List.length_replicate]
          exact small1000 (by omega)
        · rw [repl_snoc]
          exact upd_same
        · intro c o hc
          have hcD : c ≠ D := ne_of_none hc hD
          rw [upd_ne hcD]
          exact S4 _ _ (S13 _ _ hc)
      · rintro H' ⟨h1, e⟩
        refine ⟨D, List.replicate xs.length true, rfl, SqL.of h1, ?_⟩
        rw [repl_all]
        exact q _ (S1.trans e)
  | @tup a xs ds hs ha =>
    cases hy with
    | @tup b ys _ hs2 hb =>
      have hl : xs.length = ys.length := (DpAll.len ha).trans (DpAll.len hb).symm
      simp only [txt, Bool.and_eq_true] at ht
      have ht' : txts ds = true := ht.2
      have h100 : xs.length ≤ 100 := by rw [DpAll.len ha]; exact of_decide_eq_true ht.1
      have hd' : PyData.depthAll ds + 1 < n + 1 := by simpa only [PyData.depth] using hd
      refine ⟨_, rfl, by show 2 ≤ sizeLine; decide, fun tp htp => ?_⟩
      have S1 : Same H (upd H tp (.tup [.ty "list", .ty "tuple"])) := same_up htp _
      have hx1 := Same.sqt S1 hs
      have hy1 := Same.sqt S1 hs2
      have hxa := DpAll.same S1 _ _ ha
      have hya := DpAll.same S1 _ _ hb
      refine ⟨_, tp, _, _, _, _, rfl, upd_same, .cons (.ty _) (.cons (.ty _) .nil), SqT.tyx hy1, kit_t, _, rfl, iteT ?_⟩
      refine ⟨_, rfl, _, _, _, _, _, rfl, .ty _, SqT.tyx hx1, kit_ty (b := "list") (r := false) (by decide +kernel), _, rfl, _, _, _, _, _, rfl, .ty _, SqT.tyx hy1, kit_ty (b := "list") (r := false) (by decide +kernel), rfl, _, rfl, ?_⟩
      refine ite2 (fun c => absurd c (by decide)) (fun _ => ?_)
      refine ⟨_, rfl, _, _, _, _, _, rfl, .ty _, SqT.tyx hx1, kit_ty (b := "tuple") (r := true) (by decide +kernel), _, rfl, _, _, _, _, _, rfl, .ty _, SqT.tyx hy1, kit_ty (b := "tuple") (r := true) (by decide +kernel), rfl, _, rfl, ?_⟩
      refine ite2 (fun c => absurd c (by decide)) (fun _ => ?_)
      refine ⟨_, rfl, a, _, rfl, .inr hx1, _, rfl, b, _, rfl, .inr hy1, rfl, _, rfl, ?_⟩
      rw [decide_eq_true (by rw [hl])]
      refine iteT ?_
      refine ⟨_, rfl, _, rfl, a, b, xs, ys, rfl, .inr ⟨hx1, hy1, fun D hD => ?_⟩⟩
      have S2 : Same (upd H tp (.tup [.ty "list", .ty "tuple"])) (upd (upd H tp (.tup [.ty "list", .ty "tuple"])) D (.lst [])) := same_up hD _
      refine lc_zipT hl (fun i H' => H' D = some (.lst ((List.replicate i true).map V.bl)) ∧ Same (upd H tp (.tup [.ty "list", .ty "tuple"])) H') ⟨upd_same, S2⟩ ?_ ?_ ?_
      · rintro i H' _ ⟨_, e⟩
        exact ⟨Same.sqt e hx1, Same.sqt e hy1⟩
      · rintro i u v T' H' hu' hv' ⟨h1, e⟩ hT'
        obtain ⟨d, hd1, hdu⟩ := DpAll.get hxa hu'
        obtain ⟨d2, hd2, hdv⟩ := DpAll.get hya hv'
        rw [hd1] at hd2
        cases hd2
        obtain ⟨t1, t2⟩ := txts_at ht' hd1
        have S3 : Same H' (upd H' T' (.tup [u, v])) := same_up hT' _
        have S13 := e.trans S3
        refine ⟨T', _, rfl, SqT.of upd_same, rfl, _, _, rfl, _, _, rfl, rfl, rfl, ?_⟩
        refine ⟨_, rfl, _, rfl, _, _, d, rfl, Dp.same S13 _ _ hdu, Dp.same S13 _ _ hdv, t1, by omega, by omega, fun H2 S4 => ?_⟩
        have il := (List.getElem?_eq_some_iff.mp hu').1
        refine ⟨_, S4 _ _ (S3 _ _ h1), ?_, ?_, ?_⟩
        · rw [List.length_map, List.length_replicate]
          exact small1000 (by omega)
        · rw [repl_snoc]
          exact upd_same
        · intro c o hc
          have hcD : c ≠ D := ne_of_none hc hD
          rw [upd_ne hcD]
          exact S4 _ _ (S13 _ _ hc)
      · rintro H' ⟨h1, e⟩
        refine ⟨D, List.replicate xs.length true, rfl, SqL.of h1, ?_⟩
        rw [repl_all]
        exact q _ (S1.trans e)
  | non => simp [txt] at ht
  | bl b => simp [txt] at ht
  | int i => simp [txt] at ht
theorem ok_alike (T : Top w K mg) : ∀ n : Nat, C8.Cal P w K mg base n "_law_alike" (spAlike K n) []
  | 0 => T.d_law_alike.cal fun f fd F => by
    have no : ∀ vs H Q E, ¬ spAlike K 0 vs H Q E := fun vs H Q E h => by
      obtain ⟨x, y, pd, _, _, _, _, h1, _⟩ := h
      omega
    exact ⟨fun vs H Q E h => absurd h (no vs H Q E), fun A outer s H args us vs Q E _ _ _ _ h => absurd h (no vs H Q E)⟩
  | n + 1 => T.d_law_alike.cal fun f fd F => alike_step F T (ok_alike T n)
end
end TC


namespace TC
open PySem PySem.Spec PyProof.Rows L2
/-! ### a doubt, looked at -/
theorem dn_list {K : PySem.W.Frag} {H : Hp} {p : Addr} {ys : List V} {Ss : List Say} (h : H p = some (.lst ys)) (d : DnAll K H ys (Ss.map Say.nd)) (hl : Ss.length ≤ 100) (hd : ∀ S ∈ Ss, S.dep ≤ 10) :
    Dp K H (.ref p) (.list (NestedKey.datas (Ss.map Say.nd))) ∧ txt (.list (NestedKey.datas (Ss.map Say.nd))) = true ∧ PyData.depth (.list (NestedKey.datas (Ss.map Say.nd))) < 12 := by
  refine ⟨.lst (SqL.of h) (DnAll.dp _ _ d), ?_, ?_⟩
  · simp only [txt, Bool.and_eq_true]
    refine ⟨decide_eq_true ?_, ?_⟩
    · have : ∀ Ss : List Say, (NestedKey.datas (Ss.map Say.nd)).length = Ss.length := fun Ss => by
        induction Ss with
        | nil => rfl
        | cons S Ss ih => simp only [List.map_cons, NestedKey.datas, List.length_cons, ih]
      rw [this]
      exact hl
    · clear hl hd h
      induction Ss generalizing ys with
      | nil => rfl
      | cons S Ss ih =>
        cases d with
        | cons h1 h2 => simp only [List.map_cons, NestedKey.datas, txts, Say.txt S _ h1, ih h2, Bool.and_self]
  · simp only [PyData.depth]
    rw [dep_nds]
    clear hl h d
    have : NestedKey.depthAll (Ss.map Say.nd) ≤ 10 := by
      induction Ss with
      | nil => simp [NestedKey.depthAll]
      | cons S Ss ih =>
        have h1 := hd S List.mem_cons_self
        have h2 := ih fun R hR => hd R (List.mem_cons_of_mem _ hR)
        simp only [List.map_cons, NestedKey.depthAll, Say.nd_dep]
        omega
    omega
theorem two_sub {A B R : Say} (h : R ∈ two A B) : R = A ∨ R = B := by
  have h2 := (two_rise A B).2 R.nd
  have h3 := h2.mp (List.mem_map.mpr ⟨R, h, rfl⟩)
  exact h3.imp (Say.nd_inj _ _) (Say.nd_inj _ _)
theorem an_few {wd : Str} {S : Say} (h : wd = "begin" ∨ wd ∈ words S) : (answers wd S).length ≤ 2 ∧ ∀ R ∈ answers wd S, R.dep ≤ S.dep := by
  have d1 : ∀ A B : Say, ∀ o, A.dep ≤ (Say.bin o A B).dep ∧ B.dep ≤ (Say.bin o A B).dep := fun A B o => ⟨by show A.dep ≤ max A.dep B.dep + 1; omega, by show B.dep ≤ max A.dep B.dep + 1; omega⟩
  rcases word_cases h with rfl | ⟨A, rfl, rfl⟩ | ⟨A, B, rfl, hlr⟩ | ⟨A, B, rfl, rfl⟩ | ⟨A, B, rfl, rfl⟩
  · rw [an_begin]
    exact ⟨by simp, fun R hR => by rw [List.mem_singleton.mp hR]; exact Nat.le_refl _⟩
  · rw [an_not]
    exact ⟨by simp, fun R hR => nomatch hR⟩
  · rcases hlr with rfl | rfl
    · rw [an_left]
      exact ⟨by simp, fun R hR => by rw [List.mem_singleton.mp hR]; exact (d1 A B _).1⟩
    · rw [an_right]
      exact ⟨by simp, fun R hR => by rw [List.mem_singleton.mp hR]; exact (d1 A B _).2⟩
  · rw [an_which]
    refine ⟨?_, fun R hR => ?_⟩
    · rcases ltD_tri A.nd B.nd with e | e | e
      · rw [two_lt e]; simp
      · rw [Say.nd_inj _ _ e, two_same]; simp
      · rw [two_gt e]; simp
    · rcases two_sub hR with e | e
      · rw [e]; exact (d1 A B _).1
      · rw [e]; exact (d1 A B _).2
  · rw [an_if]
    exact ⟨by simp, fun R hR => by rw [List.mem_singleton.mp hR]; exact (d1 A B _).2⟩
theorem OptS.dp {K : PySem.W.Frag} {H : Hp} {v : V} : ∀ {o : Option Say}, OptS K H v o → (∀ S, o = some S → S.dep ≤ 60) → ∃ d, Dp K H v d ∧ SeqAt.shaped d = true ∧ PyData.eqv d d = true ∧ d = (match o with | none => .none | some S => S.nd.data)
  | none, h, _ => ⟨.none, by rw [show v = .non from h]; exact .non, by decide, by simp [PyData.eqv], rfl⟩
  | some S, h, hd => by
    have h' : Dn K H v S.nd := h
    have e := Say.nd_dep S
    have := hd S rfl
    exact ⟨_, Dn.dp _ _ h', h'.shaped (by omega), by rw [eqv_dec]; exact decide_eq_true rfl, rfl⟩
theorem OptS.non {K : PySem.W.Frag} {H : Hp} {v : V} : ∀ {o : Option Say}, OptS K H v o → decide (v = V.non) = o.isNone
  | none, h => by rw [show v = .non from h]; rfl
  | some S, h => by
    obtain ⟨a, xs, e, _⟩ := sa_head (show Dn K H v S.nd from h)
    rw [e]
    exact decide_eq_false (fun z => V.noConfusion z)
theorem OptS.tk {K : PySem.W.Frag} {H H' : Hp} {v : V} (t : Tk H H') : ∀ {o : Option Say}, OptS K H v o → OptS K H' v o
  | none, h => h
  | some S, h => Dn.tk (show Dn K H v S.nd from h) t
theorem sd_dep {wd : Str} {S R : Say} (h : saidBy wd S = some R) : R.dep ≤ S.dep := by
  unfold saidBy at h
  by_cases c : wd = "begin"
  · rw [if_pos c] at h; cases h
  · rw [if_neg c] at h
    cases S with
    | say n => cases h
    | not A => injection h with h; rw [← h]; show A.dep ≤ A.dep + 1; omega
    | bin o A B =>
      cases o with
      | and => cases h
      | or => cases h
      | iff => injection h with h; rw [← h]; show A.dep ≤ max A.dep B.dep + 1; omega
/-! ### the law -/
theorem flat_mem {α : Type} {xs : List α} : ∀ {n : Nat} {x : α}, x ∈ (List.replicate n xs).flatten → x ∈ xs := fun {n x} h => by
  obtain ⟨l, hl, hx⟩ := List.mem_flatten.mp h
  rw [(List.mem_replicate.mp hl).2] at hx
  exact hx
theorem gd_part {K : PySem.W.Frag} {H : Hp} {v y : V} {S : Say} (g : Gd K H v S) (p : PartOf K H v S y) : ∃ R, Gd K H y R := by
  rcases p with rfl | ⟨R, hl, hd⟩
  · exact ⟨S, g⟩
  · refine ⟨R, hd, .inl ?_⟩
    rcases g.2 with h9 | ⟨a, x, S1, _, _, rfl, h9, _⟩
    · have := hl.sub.size
      omega
    · rcases (show Say.Sub R S1 ∨ Say.Sub R S1 from hl) with h | h
      · have := h.size
        omega
      · have := h.size
        omega
theorem words_few (S : Say) : (words S).length ≤ 2 ∧ ∀ x ∈ words S, PyData.strOk x = true := by
  cases S with
  | say n => exact ⟨by show 0 ≤ 2; decide, fun x hx => nomatch hx⟩
  | not A => exact ⟨by show 1 ≤ 2; decide, fun x hx => by rw [List.mem_singleton.mp hx]; decide +kernel⟩
  | bin o A B =>
    cases o with
    | and =>
      refine ⟨by show 2 ≤ 2; decide, fun x hx => ?_⟩
      rcases List.mem_cons.mp (show x ∈ (["left", "right"] : List Str) from hx) with e | hx
      · rw [e]; decide +kernel
      · rw [List.mem_singleton.mp hx]; decide +kernel
    | or => exact ⟨by show 1 ≤ 2; decide, fun x hx => by rw [List.mem_singleton.mp (show x ∈ (["which"] : List Str) from hx)]; decide +kernel⟩
    | iff => exact ⟨by show 1 ≤ 2; decide, fun x hx => by rw [List.mem_singleton.mp (show x ∈ (["if"] : List Str) from hx)]; decide +kernel⟩
theorem dp_texts {K : PySem.W.Frag} {H : Hp} {p : Addr} {ws : List Str} (h : H p = some (.lst (ws.map V.str))) (hl : ws.length ≤ 100) (ho : ∀ x ∈ ws, PyData.strOk x = true) :
    Dp K H (.ref p) (.list (ws.map PyData.str)) ∧ txt (.list (ws.map PyData.str)) = true ∧ PyData.depth (.list (ws.map PyData.str)) < 12 := by
  refine ⟨.lst (SqL.of h) ?_, ?_, ?_⟩
  · clear h hl ho
    induction ws with
    | nil => exact .nil
    | cons x ws ih => exact .cons (.str x) ih
  · simp only [txt, Bool.and_eq_true]
    refine ⟨decide_eq_true (by rw [List.length_map]; exact hl), ?_⟩
    clear h hl
    induction ws with
    | nil => rfl
    | cons x ws ih => simp only [List.map_cons, txts, txt, ho x List.mem_cons_self, ih fun y hy => ho y (List.mem_cons_of_mem _ hy), Bool.and_self]
  · simp only [PyData.depth]
    have : PyData.depthAll (ws.map PyData.str) = 0 := by
      clear h hl ho
      induction ws with
      | nil => simp [PyData.depthAll]
      | cons x ws ih => simp only [List.map_cons, PyData.depthAll, PyData.depth, ih]; omega
    omega
/-! ### moves and replies: the mathematics -/
inductive Mv
  | doubt (w : Str) (S : Say)
  | answer (A : Say)
def told : Mv → Option Say
  | .doubt w S => saidBy w S
  | .answer A => some A
def dN (w : Str) : ND := .tup [.text "doubt", .text w]
def aN (A : Say) : ND := .tup [.text "answer", A.nd]
def raw1 (m : Mv) : List ND := match told m with
  | none => []
  | some T => (words T).map dN
def raw2 : Mv → List ND
  | .doubt w S => (answers w S).map aN
  | .answer _ => []
def RawEl (d : ND) : Prop := (∃ w, d = dN w ∧ PyData.strOk w = true) ∨ ∃ A : Say, d = aN A ∧ A.dep ≤ 10
theorem raw_srt {ds : List ND} (h : ∀ d ∈ ds, RawEl d) : Srtb ds where
  tup := fun d hd => by
    rcases h d hd with ⟨w, rfl, _⟩ | ⟨A, rfl, _⟩
    · exact ⟨_, _, rfl⟩
    · exact ⟨_, _, rfl⟩
  ok := fun d hd e he _ => by
    rcases h d hd with ⟨w, rfl, _⟩ | ⟨A, rfl, _⟩
    · rcases h e he with ⟨w2, rfl, _⟩ | ⟨A2, rfl, _⟩
      · show okD (.tup [.text "doubt", .text w]) (.tup [.text "doubt", .text w2]) = true
        rw [Say.okTup]
        exact Say.okCons (fun _ => rfl) fun _ => rfl
      · exact Say.okTxt (by decide +kernel)
    · rcases h e he with ⟨w2, rfl, _⟩ | ⟨A2, rfl, _⟩
      · exact Say.okTxt (by decide +kernel)
      · show okD (.tup [.text "answer", A.nd]) (.tup [.text "answer", A2.nd]) = true
        rw [Say.okTup]
        exact Say.okCons (fun _ => Say.nd_ok A A2) fun _ => rfl
  dep := fun d hd => by
    rcases h d hd with ⟨w, rfl, _⟩ | ⟨A, rfl, hA⟩
    · simp [dN, NestedKey.depth, NestedKey.depthAll]
    · simp [aN, NestedKey.depth, NestedKey.depthAll, Say.nd_dep]
      omega
  fst := .inl fun d hd => by
    rcases h d hd with ⟨w, rfl, _⟩ | ⟨A, rfl, _⟩
    · exact ⟨_, _, rfl⟩
    · exact ⟨_, _, rfl⟩
theorem raw_dep {d : ND} (h : RawEl d) : d.depth ≤ 12 := by
  rcases h with ⟨w, rfl, _⟩ | ⟨A, rfl, hA⟩
  · simp [dN, NestedKey.depth, NestedKey.depthAll]
  · simp [aN, NestedKey.depth, NestedKey.depthAll, Say.nd_dep]
    omega
theorem raw_txt {K : PySem.W.Frag} {H : Hp} {v : V} {d : ND} (h : RawEl d) (hv : Dn K H v d) : txt d.data = true := by
  rcases h with ⟨w, rfl, hw⟩ | ⟨A, rfl, hA⟩
  · simp only [dN, NestedKey.data, NestedKey.datas, txt, txts, hw, Bool.and_true]
    rw [Bool.and_eq_true]
    exact ⟨decide_eq_true (by show 2 ≤ 100; decide), by decide +kernel⟩
  · obtain ⟨a, x, y, _, _, _, hy⟩ := Dn.tup2 hv
    simp only [aN, NestedKey.data, NestedKey.datas, txt, txts, Say.txt A y hy, Bool.and_true]
    rw [Bool.and_eq_true]
    exact ⟨decide_eq_true (by show 2 ≤ 100; decide), by decide +kernel⟩
theorem datas_len : ∀ ds : List ND, (NestedKey.datas ds).length = ds.length
  | [] => rfl
  | d :: ds => by simp only [NestedKey.datas, List.length_cons, datas_len ds]
theorem raw_list {K : PySem.W.Frag} {H : Hp} {p : Addr} {ys : List V} {ds : List ND} (h : H p = some (.lst ys)) (d : DnAll K H ys ds) (hl : ds.length ≤ 100) (hd : ∀ e ∈ ds, RawEl e) :
    Dp K H (.ref p) (.list (NestedKey.datas ds)) ∧ txt (.list (NestedKey.datas ds)) = true ∧ PyData.depth (.list (NestedKey.datas ds)) < 14 := by
  refine ⟨.lst (SqL.of h) (DnAll.dp _ _ d), ?_, ?_⟩
  · simp only [txt, Bool.and_eq_true]
    refine ⟨decide_eq_true (by rw [datas_len]; exact hl), ?_⟩
    clear hl h
    induction ds generalizing ys with
    | nil => rfl
    | cons e ds ih =>
      cases d with
      | cons h1 h2 => simp only [NestedKey.datas, txts, raw_txt (hd e List.mem_cons_self) h1, ih h2 fun z hz => hd z (List.mem_cons_of_mem _ hz), Bool.and_self]
  · simp only [PyData.depth]
    rw [dep_nds]
    clear hl h d
    have : NestedKey.depthAll ds ≤ 12 := by
      induction ds with
      | nil => simp [NestedKey.depthAll]
      | cons e ds ih =>
        have h1 := raw_dep (hd e List.mem_cons_self)
        have h2 := ih fun z hz => hd z (List.mem_cons_of_mem _ hz)
        simp only [NestedKey.depthAll]
        omega
    omega
theorem DnAll.app {K : PySem.W.Frag} {H : Hp} : ∀ {xs ys : List V} {ds es : List ND}, DnAll K H xs ds → DnAll K H ys es → DnAll K H (xs ++ ys) (ds ++ es)
  | _, _, _, _, .nil, h => h
  | _, _, _, _, .cons h t, h2 => .cons h (DnAll.app t h2)
theorem DnAll.perm {K : PySem.W.Frag} {H : Hp} {xs ys : List V} (p : ys.Perm xs) : ∀ {ds : List ND}, DnAll K H xs ds → ∃ es, DnAll K H ys es ∧ es.Perm ds := by
  induction p with
  | nil => intro ds h; exact ⟨ds, h, List.Perm.refl _⟩
  | cons x _ ih =>
    intro ds h
    cases h with
    | cons h1 h2 =>
      obtain ⟨es, a, b⟩ := ih h2
      exact ⟨_, .cons h1 a, b.cons _⟩
  | swap x y l =>
    intro ds h
    cases h with
    | cons h1 h2 =>
      cases h2 with
      | cons h3 h4 => exact ⟨_, .cons h3 (.cons h1 h4), List.Perm.swap _ _ _⟩
  | trans _ _ ih1 ih2 =>
    intro ds h
    obtain ⟨es, a, b⟩ := ih2 h
    obtain ⟨fs, c, d⟩ := ih1 a
    exact ⟨fs, c, d.trans b⟩
theorem DnAll.mem2 {K : PySem.W.Frag} {H : Hp} : ∀ {ys : List V} {es : List ND}, DnAll K H ys es → ∀ e ∈ es, ∃ y ∈ ys, Dn K H y e
  | _, _, .nil, e, he => nomatch he
  | _, _, .cons h t, e, he => by
    rcases List.mem_cons.mp he with z | he
    · exact ⟨_, List.mem_cons_self, z ▸ h⟩
    · obtain ⟨y, a, b⟩ := DnAll.mem2 t e he
      exact ⟨y, List.mem_cons_of_mem _ a, b⟩
theorem DnAll.pair {K : PySem.W.Frag} {H : Hp} : ∀ {ys : List V} {es : List ND}, DnAll K H ys es → ys.Pairwise (fun x y => ∀ d e, Dn K H x d → Dn K H y e → ltD e d = false) → es.Pairwise (fun d e => ltD e d = false)
  | _, _, .nil, _ => .nil
  | _, _, .cons h t, p => by
    obtain ⟨p1, p2⟩ := List.pairwise_cons.mp p
    refine .cons (fun e he => ?_) (DnAll.pair t p2)
    obtain ⟨y, hy, hd⟩ := DnAll.mem2 t e he
    exact p1 y hy _ _ h hd
/-- sorted data are made by their members -/
theorem sort_uniq {l m : List ND} (p : l.Perm m) (h1 : l.Pairwise (fun d e => ltD e d = false)) (h2 : m.Pairwise (fun d e => ltD e d = false)) : l = m :=
  p.eq_of_pairwise (fun a b _ _ h h' => by
    rcases ltD_tri a b with z | z | z
    · rw [h'] at z; cases z
    · exact z
    · rw [h] at z; cases z) h1 h2
def MvAt (K : PySem.W.Frag) (H : Hp) (y : V) : Mv → Prop
  | .doubt w S => ∃ t v, y = .ref t ∧ SqT K H t [.str "doubt", .str w, v] ∧ Gd K H v S ∧ w ∈ words S
  | .answer A => ∃ t u z, y = .ref t ∧ SqT K H t [.str "answer", u, z] ∧ Dn K H z A.nd ∧ A.dep ≤ 10
theorem MvAt.tk {K : PySem.W.Frag} {H H' : Hp} {y : V} (tk : Tk H H') : ∀ {m : Mv}, MvAt K H y m → MvAt K H' y m
  | .doubt _ _, ⟨t, v, e, hs, g, hw⟩ => ⟨t, v, e, tk.sqt hs, g.tk tk, hw⟩
  | .answer _, ⟨t, u, z, e, hs, hz, hd⟩ => ⟨t, u, z, e, tk.sqt hs, hz.tk tk, hd⟩
theorem told_dep {K : PySem.W.Frag} {H : Hp} {y : V} : ∀ {m : Mv}, MvAt K H y m → ∀ R, told m = some R → R.dep ≤ 10
  | .doubt _ _, ⟨_, _, _, _, g, _⟩, R, h => Nat.le_trans (sd_dep h) g.dep
  | .answer A, ⟨_, _, _, _, _, _, hd⟩, R, h => by
    have e : A = R := Option.some.inj h
    rw [← e]
    exact hd
theorem raw_els {K : PySem.W.Frag} {H : Hp} {y : V} : ∀ {m : Mv}, MvAt K H y m → (∀ d ∈ raw1 m ++ raw2 m, RawEl d) ∧ (raw1 m).length ≤ 2 ∧ (raw2 m).length ≤ 2 := fun {m} h => by
  have h1 : (∀ d ∈ raw1 m, RawEl d) ∧ (raw1 m).length ≤ 2 := by
    unfold raw1
    cases told m with
    | none => exact ⟨fun d hd => (nomatch hd), by simp⟩
    | some T =>
      obtain ⟨a, b⟩ := words_few T
      refine ⟨fun d hd => ?_, by simpa using a⟩
      obtain ⟨x, hx, rfl⟩ := List.mem_map.mp hd
      exact .inl ⟨x, rfl, b x hx⟩
  have h2 : (∀ d ∈ raw2 m, RawEl d) ∧ (raw2 m).length ≤ 2 := by
    cases m with
    | answer A => exact ⟨fun d hd => (nomatch hd), by simp [raw2]⟩
    | doubt w S =>
      obtain ⟨t, v, _, _, g, hw⟩ := h
      obtain ⟨a, b⟩ := an_few (.inr hw)
      refine ⟨fun d hd => ?_, by simpa [raw2] using a⟩
      obtain ⟨x, hx, rfl⟩ := List.mem_map.mp (show d ∈ (answers w S).map aN from hd)
      exact .inr ⟨x, rfl, Nat.le_trans (b x hx) g.dep⟩
  exact ⟨fun d hd => (List.mem_append.mp hd).elim (h1.1 d) (h2.1 d), h1.2, h2.2⟩
def spTold (K : PySem.W.Frag) : Sp := fun vs H Q _ => ∃ (y : V) (m : Mv), vs = [y] ∧ MvAt K H y m ∧ ∀ (r : V) (H' : Hp), Same H H' → OptS K H' r (told m) → Q r H'
def spReplies (K : PySem.W.Frag) : Sp := fun vs H Q _ => ∃ (y : V) (m : Mv), vs = [y] ∧ MvAt K H y m ∧
  ∀ (p : Addr) (ys : List V) (ds : List ND) (H' : Hp), Same H H' → H p = none → H' p = some (.lst ys) → DnAll K H' ys ds → ds.Perm (raw1 m ++ raw2 m) → ds.Pairwise (fun d e => ltD e d = false) → Q (.ref p) H'
def spMoves (K : PySem.W.Frag) : Sp := fun vs H Q _ => ∃ (v : V) (S : Say), vs = [v] ∧ Gd K H v S ∧ S.size ≤ 19 ∧
  ∀ (p : Addr) (ys : List V) (H' : Hp), Same H H' → H' p = some (.lst ys) → (∀ y ∈ ys, ∃ m, MvAt K H' y m) → ys.length ≤ 200 → Q (.ref p) H'
theorem mk_dN {K : PySem.W.Frag} {H : Hp} {t : Addr} {x : Str} (h : SqT K H t [.str "doubt", .str x]) (o : PyData.strOk x = true) : Dn K H (.ref t) (dN x) := .tup h (.cons (.str _ (by decide +kernel)) (.cons (.str _ o) .nil))
theorem mk_aN {K : PySem.W.Frag} {H : Hp} {t : Addr} {z : V} {A : Say} (h : SqT K H t [.str "answer", z]) (o : Dn K H z A.nd) : Dn K H (.ref t) (aN A) := .tup h (.cons (.str _ (by decide +kernel)) (.cons o .nil))
end TC


namespace TC
open PySem PySem.Spec PyProof.Rows L2
section
variable {P : Program} {w : World} {K : PySem.W.Frag} {mg : Str → Option Value} {base : Heap}
theorem ok_told_by {f : Addr} {fd : FuncData} (F : Fun K "told_by" "told_by" s_told_by f fd) (T : Top w K mg) (C_said_by : C8.Cal P w K mg base 1 "said_by" (spSaid K) []) : FnOk P w K mg base CX0 2 f fd ["move"] (spTold K) := by
  refine F.ok sc_told_by (fun vs H Q E h => ?_) (fun cdv A outer s H vs Q E hr h => ?_)
  · obtain ⟨y, m, rfl, _⟩ := h
    rfl
  have hu := hu_of hr
  obtain ⟨y, m, rfl, hm, q⟩ := h
  refine ⟨_, (pss_cons (ps_if (pt_cmpR op_eq (pe_ix ix_tup (pv 0) pe_int (fun _ _ => rfl)) pe_str (nomark _))
    (pss_one (ps_ret (pe_ix ix_tup (pv 0) pe_int (fun _ _ => rfl))))
    pss_nil)
  (pss_one (ps_ret (C8.pe_c C_said_by hr (by decide) rfl (pa_cons (pe_tup (pa_cons (pe_ix ix_tup (pv 0) pe_int (fun _ _ => rfl)) (pa_cons (pe_ix ix_tup (pv 0) pe_int (fun _ _ => rfl)) pa_nil))) pa_nil))))), ?_⟩
  cases m with
  | answer A =>
    obtain ⟨t, u, z, rfl, hs, hz, _⟩ := hm
    refine ⟨_, rfl, t, _, 0, _, rfl, rfl, hs, at_head, rfl, _, rfl, ite2 (fun _ => ?_) (fun c => absurd (by decide +kernel) c)⟩
    exact ⟨_, rfl, t, _, 2, _, rfl, rfl, hs, at_two, q z H (Same.refl _) hz⟩
  | doubt wd S =>
    obtain ⟨t, v, rfl, hs, g, hw⟩ := hm
    refine ⟨_, rfl, t, _, 0, _, rfl, rfl, hs, at_head, rfl, _, rfl, ite2 (fun c => absurd (of_decide_eq_true c) (by decide +kernel)) (fun _ => ?_)⟩
    refine ⟨_, rfl, t, _, 1, _, rfl, rfl, hs, at_one, _, rfl, t, _, 2, _, rfl, rfl, hs, at_two, by show 2 ≤ sizeLine; decide, fun t2 ht2 => ?_⟩
    have S1 : Same H (upd H t2 (.tup [.str wd, v])) := same_up ht2 _
    exact ⟨t2, wd, v, S, rfl, SqT.of upd_same, g.1.tk (Tk.same S1), .inr hw, fun r hr' => q r _ S1 hr'⟩
theorem ok_says {f : Addr} {fd : FuncData} (F : Fun K "_law_says" "_law_says" s_law_says f fd) (T : Top w K mg) : FnOk P w K mg base CX0 1 f fd ["_law_move"] (spTold K) := by
  refine F.ok sc_law_says (fun vs H Q E h => ?_) (fun cdv A outer s H vs Q E hr h => ?_)
  · obtain ⟨y, m, rfl, _⟩ := h
    rfl
  have hu := hu_of hr
  obtain ⟨y, m, rfl, hm, q⟩ := h
  refine ⟨_, (pss_cons (ps_if (pt_cmpR op_eq (pe_ix ix_tup (pv 0) pe_int (fun _ _ => rfl)) pe_str (nomark _))
    (pss_one (ps_ret (pe_ix ix_tup (pv 0) pe_int (fun _ _ => rfl))))
    pss_nil)
  (pss_cons (ps_if (PW.pt (pw_or (pt_cmpR op_eq (pe_ix ix_tup (pv 0) pe_int (fun _ _ => rfl)) pe_str (nomark _)) (pw_or1 (pt_cmpR op_eq (pe_ix ix_tup (pv 0) pe_int (fun _ _ => rfl)) pe_str (nomark _)))))
    (pss_one (ps_ret (pe_ix ix_tup (pe_ix ix_tup (pv 0) pe_int (fun _ _ => rfl)) pe_int (fun _ _ => rfl))))
    pss_nil)
  (pss_one (ps_ret pe_non)))), ?_⟩
  cases m with
  | answer A =>
    obtain ⟨t, u, z, rfl, hs, hz, _⟩ := hm
    refine ⟨_, rfl, t, _, 0, _, rfl, rfl, hs, at_head, rfl, _, rfl, ite2 (fun _ => ?_) (fun c => absurd (by decide +kernel) c)⟩
    exact ⟨_, rfl, t, _, 2, _, rfl, rfl, hs, at_two, q z H (Same.refl _) hz⟩
  | doubt wd S =>
    obtain ⟨t, v, rfl, ht, g, hw⟩ := hm
    have hv := g.1
    refine ⟨_, rfl, t, _, 0, _, rfl, rfl, ht, at_head, rfl, _, rfl, ite2 (fun c => absurd (of_decide_eq_true c) (by decide +kernel)) (fun _ => ?_)⟩
    have q' : ∀ r, OptS K H r (saidBy wd S) → Q r H := fun r h => q r H (Same.refl _) h
    rcases word_cases (.inr hw) with rfl | ⟨A, rfl, rfl⟩ | ⟨A, B, rfl, hlr⟩ | ⟨A, B, rfl, rfl⟩ | ⟨A, B, rfl, rfl⟩
    · refine ⟨_, rfl, t, _, 1, _, rfl, rfl, ht, at_one, rfl, _, rfl, ite2 (fun c => absurd (of_decide_eq_true c) (by decide +kernel)) (fun _ => ?_)⟩
      refine ⟨_, rfl, t, _, 1, _, rfl, rfl, ht, at_one, rfl, _, rfl, ite2 (fun c => absurd (of_decide_eq_true c) (by decide +kernel)) (fun _ => ?_)⟩
      exact q' .non (by rw [sd_begin]; rfl)
    · obtain ⟨a, x, rfl, hs, hx⟩ := sa_not hv
      refine ⟨_, rfl, t, _, 1, _, rfl, rfl, ht, at_one, rfl, _, rfl, ite2 (fun c => absurd (of_decide_eq_true c) (by decide +kernel)) (fun _ => ?_)⟩
      refine ⟨_, rfl, t, _, 1, _, rfl, rfl, ht, at_one, rfl, _, rfl, ite2 (fun _ => ?_) (fun c => absurd (by decide +kernel) c)⟩
      exact ⟨_, rfl, t, _, 2, _, rfl, rfl, ht, at_two, a, _, 1, _, rfl, rfl, hs, at_one, q' x (by rw [sd_not]; exact hx)⟩
    · rcases hlr with rfl | rfl
      · refine ⟨_, rfl, t, _, 1, _, rfl, rfl, ht, at_one, rfl, _, rfl, ite2 (fun c => absurd (of_decide_eq_true c) (by decide +kernel)) (fun _ => ?_)⟩
        refine ⟨_, rfl, t, _, 1, _, rfl, rfl, ht, at_one, rfl, _, rfl, ite2 (fun c => absurd (of_decide_eq_true c) (by decide +kernel)) (fun _ => ?_)⟩
        exact q' .non (by rw [sd_and (.inl rfl)]; rfl)
      · refine ⟨_, rfl, t, _, 1, _, rfl, rfl, ht, at_one, rfl, _, rfl, ite2 (fun c => absurd (of_decide_eq_true c) (by decide +kernel)) (fun _ => ?_)⟩
        refine ⟨_, rfl, t, _, 1, _, rfl, rfl, ht, at_one, rfl, _, rfl, ite2 (fun c => absurd (of_decide_eq_true c) (by decide +kernel)) (fun _ => ?_)⟩
        exact q' .non (by rw [sd_and (.inr rfl)]; rfl)
    · refine ⟨_, rfl, t, _, 1, _, rfl, rfl, ht, at_one, rfl, _, rfl, ite2 (fun c => absurd (of_decide_eq_true c) (by decide +kernel)) (fun _ => ?_)⟩
      refine ⟨_, rfl, t, _, 1, _, rfl, rfl, ht, at_one, rfl, _, rfl, ite2 (fun c => absurd (of_decide_eq_true c) (by decide +kernel)) (fun _ => ?_)⟩
      exact q' .non (by rw [sd_which]; rfl)
    · obtain ⟨a, x, y, rfl, hs, hx, hy⟩ := sa_bin hv
      refine ⟨_, rfl, t, _, 1, _, rfl, rfl, ht, at_one, rfl, _, rfl, ite2 (fun _ => ?_) (fun c => absurd (by decide +kernel) c)⟩
      exact ⟨_, rfl, t, _, 2, _, rfl, rfl, ht, at_two, a, _, 1, _, rfl, rfl, hs, at_one, q' x (by rw [sd_if]; exact hx)⟩
/-- the sorted list, told as data -/
theorem sort_fin {H : Hp} {fs ys : List V} {ds : List ND} {p : Addr} {o : HO} (d : DnAll K H fs ds) (pm : ys.Perm fs) (pw : ys.Pairwise (fun x y => ∀ d e, Dn K H x d → Dn K H y e → ltD e d = false)) (hp : H p = none) :
    ∃ es, DnAll K (upd H p o) ys es ∧ es.Perm ds ∧ es.Pairwise (fun d e => ltD e d = false) := by
  obtain ⟨es, a, b⟩ := DnAll.perm pm d
  exact ⟨es, DnAll.mono (Tk.new hp) _ _ a, b, DnAll.pair a pw⟩
theorem doubt_lc {H1 : Hp} {p D : Addr} {ws : List Str} {acc : List V} {H' : Hp} {i : Nat} {x : Str} (hi : ws[i]? = some x) (ho : PyData.strOk x = true) (hacc : H' D = some (.lst acc)) (hd : DnAll K H' acc ((ws.take i).map dN)) {t : Addr} (ht : H' t = none) (hD : H1 D = none) (S1 : Same H1 H') :
    (upd H' t (.tup [.str "doubt", .str x])) D = some (.lst acc) ∧ DnAll K (upd (upd H' t (.tup [.str "doubt", .str x])) D (.lst (acc ++ [.ref t]))) (acc ++ [.ref t]) ((ws.take (i + 1)).map dN) ∧ Same H1 (upd (upd H' t (.tup [.str "doubt", .str x])) D (.lst (acc ++ [.ref t]))) := by
  have nt : D ≠ t := ne_of_none hacc ht
  have h1 : (upd H' t (.tup [.str "doubt", .str x])) D = some (.lst acc) := by rw [upd_ne nt]; exact hacc
  have k1 : Tk H' (upd H' t (.tup [.str "doubt", .str x])) := Tk.new ht
  have k2 : Tk (upd H' t (.tup [.str "doubt", .str x])) (upd (upd H' t (.tup [.str "doubt", .str x])) D (.lst (acc ++ [.ref t]))) := Tk.lst h1
  refine ⟨h1, ?_, ?_⟩
  · have e : (ws.take (i + 1)).map dN = (ws.take i).map dN ++ [dN x] := by
      rw [List.take_succ, hi, List.map_append] <;> rfl
    rw [e]
    refine (DnAll.mono (k1.trans k2) _ _ hd).app (.one (mk_dN ?_ ho))
    exact k2.sqt (SqT.of upd_same)
  · intro b o hb
    rw [upd_ne (ne_of_none hb hD), upd_ne (ne_of_none (S1 _ _ hb) ht)]
    exact S1 _ _ hb
theorem answer_lc {H1 : Hp} {D : Addr} {As : List Say} {acc : List V} {H' : Hp} {i : Nat} {A : Say} {z : V} (hi : As[i]? = some A) (ho : Dn K H' z A.nd) (hacc : H' D = some (.lst acc)) (hd : DnAll K H' acc ((As.take i).map aN)) {t : Addr} (ht : H' t = none) (hD : H1 D = none) (S1 : Same H1 H') :
    (upd H' t (.tup [.str "answer", z])) D = some (.lst acc) ∧ DnAll K (upd (upd H' t (.tup [.str "answer", z])) D (.lst (acc ++ [.ref t]))) (acc ++ [.ref t]) ((As.take (i + 1)).map aN) ∧ Same H1 (upd (upd H' t (.tup [.str "answer", z])) D (.lst (acc ++ [.ref t]))) := by
  have nt : D ≠ t := ne_of_none hacc ht
  have h1 : (upd H' t (.tup [.str "answer", z])) D = some (.lst acc) := by rw [upd_ne nt]; exact hacc
  have k1 : Tk H' (upd H' t (.tup [.str "answer", z])) := Tk.new ht
  have k2 : Tk (upd H' t (.tup [.str "answer", z])) (upd (upd H' t (.tup [.str "answer", z])) D (.lst (acc ++ [.ref t]))) := Tk.lst h1
  refine ⟨h1, ?_, ?_⟩
  · have e : (As.take (i + 1)).map aN = (As.take i).map aN ++ [aN A] := by
      rw [List.take_succ, hi, List.map_append] <;> rfl
    rw [e]
    refine (DnAll.mono (k1.trans k2) _ _ hd).app (.one (mk_aN ?_ ((ho.tk k1).tk k2)))
    exact k2.sqt (SqT.of upd_same)
  · intro b o hb
    rw [upd_ne (ne_of_none hb hD), upd_ne (ne_of_none (S1 _ _ hb) ht)]
    exact S1 _ _ hb
theorem optS_none {H : Hp} {v : V} {m : Mv} (h : OptS K H v (told m)) (e : told m = none) : raw1 m = [] := by
  unfold raw1
  rw [e]
theorem raw1_some {m : Mv} {T : Say} (e : told m = some T) : raw1 m = (words T).map dN := by
  unfold raw1
  rw [e]
theorem ok_replies {f : Addr} {fd : FuncData} (F : Fun K "replies" "replies" s_replies f fd) (T : Top w K mg) (C_told_by : C8.Cal P w K mg base 2 "told_by" (spTold K) []) (C_doubts_of : C8.Cal P w K mg base 1 "doubts_of" (spWords K) [])
    (C_answers_to : C8.Cal P w K mg base 1 "answers_to" (spAnswers K) []) : FnOk P w K mg base CX0 3 f fd ["move"] (spReplies K) := by
  refine F.ok sc_replies (fun vs H Q E h => ?_) (fun cdv A outer s H vs Q E hr h => ?_)
  · obtain ⟨y, m, rfl, _⟩ := h
    rfl
  have hu := hu_of hr
  obtain ⟨y, m, rfl, hm, q⟩ := h
  obtain ⟨els, le1, le2⟩ := raw_els hm
  refine ⟨_, (pss_cons (ps_set (i := 1) sc_replies.nd rfl (Or.inl rfl) (pe_lst pa_nil))
  (pss_cons (ps_set (i := 2) sc_replies.nd rfl (Or.inl rfl) (C8.pe_c C_told_by hr (by decide) rfl (pa_cons (pv 0) pa_nil)))
  (C8.pss_cut (ps_if (pt_cmpR op_notN (pv 2) pe_non (nomark _))
    (pss_one (ps_setLc (i := 1) (own := [("word", 3)]) (g := gName 3) (tt := tYes) (by rfl) sc_replies.nd rfl rfl (sw_true rfl rfl rfl (by decide +kernel)) (pi_list (C8.pe_c C_doubts_of hr (by decide) rfl (pa_cons (pv 2) pa_nil))) (blkOk_by (N := sc_replies_N) (sc := defScope s_replies) (by decide +kernel)) (fun _ _ _ _ _ => pg_name (i := 3) sc_replies.nd rfl (Or.inl rfl)) (fun _ _ _ _ _ => pts_nil) (fun _ _ _ _ _ => (pe_tup (pa_cons pe_str (pa_cons (pv 3) pa_nil))))))
    pss_nil)
  (C8.pss_cut (ps_if (pt_cmpR op_eq (pe_ix ix_tup (pv 0) pe_int (fun _ _ => rfl)) pe_str (nomark _))
    (pss_one (ps_expr (pe_bm PySem.F.plainAttrs_list PySem.F.slot_list_extend PySem.F.type_list_extend mt_extend (pv 1) (pa_cons (pe_lc (own := [("answer", 4)]) (g := gName 4) (tt := tYes) (by rfl) sc_replies.nd (pi_list (C8.pe_c C_answers_to hr (by decide) rfl (pa_cons (pe_tup (pa_cons (pe_ix ix_tup (pv 0) pe_int (fun _ _ => rfl)) (pa_cons (pe_ix ix_tup (pv 0) pe_int (fun _ _ => rfl)) pa_nil))) pa_nil))) (blkOk_by (N := sc_replies_N) (sc := defScope s_replies) (by decide +kernel)) (fun _ _ _ _ _ => pg_name (i := 4) sc_replies.nd rfl (Or.inl rfl)) (fun _ _ _ _ _ => pts_nil) (fun _ _ _ _ _ => (pe_tup (pa_cons pe_str (pa_cons (pv 4) pa_nil))))) pa_nil))))
    pss_nil)
  (pss_one (ps_ret (pe_callB (cr_sortN hr.u43) (by rfl) T.z_sorted (by decide +kernel) (pa_cons (pv 1) pa_nil)))))))), ?_⟩
  refine ⟨by show 0 ≤ sizeLine; decide, fun fp hfp => ?_⟩
  have S0 : Same H (upd H fp (.lst [])) := same_up hfp _
  have h0 : (upd H fp (.lst [])) fp = some (.lst []) := upd_same
  generalize upd H fp (.lst []) = H0 at S0 h0 ⊢
  refine ⟨_, rfl, y, m, rfl, hm.tk (Tk.same S0), fun r H1 S1 ho => ?_⟩
  have S01 := S0.trans S1
  refine ⟨fun σ H' => ∃ (fp : Addr) (fs : List V) (v3 v4 : Option V), σ = [some y, some (.ref fp), some r, v3, v4] ∧ H' fp = some (.lst fs) ∧ H fp = none ∧ DnAll K H' fs (raw1 m) ∧ Same H H', ?_, ?_⟩
  · refine ⟨_, rfl, rfl, _, rfl, ?_⟩
    rw [OptS.non ho]
    cases eT : told m with
    | none =>
      refine iteF ?_
      exact ⟨fp, [], none, none, rfl, S1 _ _ h0, hfp, by rw [optS_none ho eT]; exact .nil, S01⟩
    | some R =>
      refine iteT ?_
      rw [eT] at ho
      obtain ⟨wf, wo⟩ := words_few R
      refine ⟨_, rfl, r, R, rfl, ho, fun p H2 S2 hp h2 => ?_⟩
      refine ⟨p, rfl, ⟨_, SqL.of h2⟩, fun D hD => ?_⟩
      have S3 : Same H2 (upd H2 D (.lst [])) := same_up hD _
      have S02 := S01.trans S2
      refine lc_list (K := K) (a := p) (xs := (words R).map V.str) (fun i H' => ∃ acc : List V, H' D = some (.lst acc) ∧ DnAll K H' acc (((words R).take i).map dN) ∧ acc.length = i ∧ Same H2 H') ⟨[], upd_same, .nil, rfl, S3⟩ ?_ ?_ ?_
      · rintro i H' _ ⟨_, _, _, _, e⟩
        exact SqL.of (e _ _ h2)
      · rintro i x H' hi ⟨acc, hacc, hd, hl, e⟩
        have hil := (List.getElem?_eq_some_iff.mp hi).1
        rw [List.length_map] at hil
        rw [List.getElem?_map] at hi
        obtain ⟨wd, hwd, rfl⟩ := Option.map_eq_some_iff.mp hi
        refine ⟨rfl, _, rfl, by show 2 ≤ sizeLine; decide, fun t ht => ?_⟩
        obtain ⟨k1, k2, k3⟩ := doubt_lc (p := p) hwd (wo _ (List.mem_of_getElem? hwd)) hacc hd ht hD e
        exact ⟨acc, k1, small1000 (by omega), acc ++ [.ref t], upd_same, k2, by rw [List.length_append, hl]; rfl, k3⟩
      · rintro H' ⟨acc, hacc, hd, hl, e⟩
        rw [List.length_map, List.take_length] at hd
        exact ⟨D, acc, _, _, rfl, hacc, S02.free hD, by rw [raw1_some eT]; exact hd, S02.trans e⟩
  · rintro σ H2 ⟨fp2, fs, v3, v4, rfl, hf2, hn2, hd2, S2⟩
    have lf : fs.length ≤ 2 := by
      rw [hd2.len]
      exact le1
    refine ⟨fun σ H' => ∃ (fp : Addr) (fs : List V) (v3 v4 : Option V), σ = [some y, some (.ref fp), some r, v3, v4] ∧ H' fp = some (.lst fs) ∧ DnAll K H' fs (raw1 m ++ raw2 m) ∧ Same H H', ?_, ?_⟩
    · cases m with
      | answer A =>
        obtain ⟨t, u, z, rfl, hs, hz, _⟩ := hm
        refine ⟨_, rfl, t, _, 0, _, rfl, rfl, Same.sqt S2 hs, at_head, rfl, _, rfl, ite2 (fun c => absurd (of_decide_eq_true c) (by decide +kernel)) (fun _ => ?_)⟩
        exact ⟨fp2, fs, v3, v4, rfl, hf2, by rw [show raw2 (.answer A) = [] from rfl, List.append_nil]; exact hd2, S2⟩
      | doubt wd S =>
        obtain ⟨t, v, rfl, hs, g, hw⟩ := hm
        have hs2 := Same.sqt S2 hs
        refine ⟨_, rfl, t, _, 0, _, rfl, rfl, hs2, at_head, rfl, _, rfl, ite2 (fun _ => ?_) (fun c => absurd (by decide +kernel) c)⟩
        refine ⟨_, rfl, .inl ⟨rfl, _, SqL.of hf2⟩, _, rfl, t, _, 1, _, rfl, rfl, hs2, at_one, _, rfl, t, _, 2, _, rfl, rfl, hs2, at_two, by show 2 ≤ sizeLine; decide, fun t2 ht2 => ?_⟩
        have S3 : Same H2 (upd H2 t2 (.tup [.str wd, v])) := same_up ht2 _
        refine ⟨t2, wd, v, S, rfl, SqT.of upd_same, g.tk (Tk.same (S2.trans S3)), .inr hw, fun p ys H3 S4 hp hy hyd => ?_⟩
        refine ⟨p, rfl, ⟨_, SqL.of hy⟩, fun D hD => ?_⟩
        have S5 : Same H3 (upd H3 D (.lst [])) := same_up hD _
        have hly : ys.length = (answers wd S).length := by
          have := hyd.len
          rwa [List.length_map] at this
        refine lc_list (K := K) (a := p) (xs := ys) (fun i H' => ∃ acc : List V, H' D = some (.lst acc) ∧ DnAll K H' acc (((answers wd S).take i).map aN) ∧ acc.length = i ∧ Same H3 H') ⟨[], upd_same, .nil, rfl, S5⟩ ?_ ?_ ?_
        · rintro i H' _ ⟨_, _, _, _, e⟩
          exact SqL.of (e _ _ hy)
        · rintro i x H' hi ⟨acc, hacc, hd, hl, e⟩
          have hil := (List.getElem?_eq_some_iff.mp hi).1
          obtain ⟨d, hd1, hx⟩ := hyd.get hi
          rw [List.getElem?_map] at hd1
          obtain ⟨A, hA, rfl⟩ := Option.map_eq_some_iff.mp hd1
          refine ⟨rfl, _, rfl, by show 2 ≤ sizeLine; decide, fun t3 ht3 => ?_⟩
          obtain ⟨k1, k2, k3⟩ := answer_lc hA (hx.tk (Tk.same e)) hacc hd ht3 hD e
          have : (answers wd S).length ≤ 2 := (an_few (.inr hw)).1
          exact ⟨acc, k1, small1000 (by omega), acc ++ [.ref t3], upd_same, k2, by rw [List.length_append, hl]; rfl, k3⟩
        · rintro H' ⟨acc, hacc, hd, hl, e⟩
          rw [hly, List.take_length] at hd
          have S2' : Same H2 H' := S3.trans (S4.trans e)
          have hf' := S2' _ _ hf2
          have : (answers wd S).length ≤ 2 := (an_few (.inr hw)).1
          refine ⟨fp2, D, fs, acc, rfl, rfl, hf', hacc, Nat.le_of_lt (small1000 (by omega)), fp2, fs ++ acc, _, _, rfl, upd_same, ?_, ?_⟩
          · exact DnAll.mono (Tk.lst hf') _ _ ((DnAll.mono (Tk.same S2') _ _ hd2).app hd)
          · intro b o hb
            rw [upd_ne (ne_of_none hb hn2)]
            exact S2' _ _ (S2 _ _ hb)
    · rintro σ H3 ⟨fp3, fs3, v3, v4, rfl, hf3, hd3, S3⟩
      refine ⟨_, rfl, fp3, fs3, raw1 m ++ raw2 m, rfl, SqL.of hf3, hd3.mem, raw_srt els, fun ys p pm pw hp => ?_⟩
      obtain ⟨es, e1, e2, e3⟩ := sort_fin (o := .lst ys) hd3 pm pw hp
      exact q p ys es _ (S3.trans (same_up hp _)) (S3.free hp) upd_same e1 e2 e3
theorem ok_law_replies {f : Addr} {fd : FuncData} (F : Fun K "_law_replies" "_law_replies" s_law_replies f fd) (T : Top w K mg) (C_law_says : C8.Cal P w K mg base 1 "_law_says" (spTold K) []) (C_law_words : C8.Cal P w K mg base 1 "_law_words" (spWords K) [])
    (C_law_answers : C8.Cal P w K mg base 1 "_law_answers" (spAnswers K) []) : FnOk P w K mg base CX0 2 f fd ["_law_move"] (spReplies K) := by
  refine F.ok sc_law_replies (fun vs H Q E h => ?_) (fun cdv A outer s H vs Q E hr h => ?_)
  · obtain ⟨y, m, rfl, _⟩ := h
    rfl
  have hu := hu_of hr
  obtain ⟨y, m, rfl, hm, q⟩ := h
  obtain ⟨els, le1, le2⟩ := raw_els hm
  refine ⟨_, (pss_cons (ps_set (i := 1) sc_law_replies.nd rfl (Or.inl rfl) (C8.pe_c C_law_says hr (by decide) rfl (pa_cons (pv 0) pa_nil)))
  (pss_cons (ps_set (i := 2) sc_law_replies.nd rfl (Or.inl rfl) (pe_lst pa_nil))
  (C8.pss_cut (ps_if (pt_cmpR op_notN (pv 1) pe_non (nomark _))
    (pss_one (ps_setLc (i := 2) (own := [("_law_word", 3)]) (g := gName 3) (tt := tYes) (by rfl) sc_law_replies.nd rfl rfl (sw_true rfl rfl rfl (by decide +kernel)) (pi_list (C8.pe_c C_law_words hr (by decide) rfl (pa_cons (pv 1) pa_nil))) (blkOk_by (N := sc_law_replies_N) (sc := defScope s_law_replies) (by decide +kernel)) (fun _ _ _ _ _ => pg_name (i := 3) sc_law_replies.nd rfl (Or.inl rfl)) (fun _ _ _ _ _ => pts_nil) (fun _ _ _ _ _ => (pe_tup (pa_cons pe_str (pa_cons (pv 3) pa_nil))))))
    pss_nil)
  (C8.pss_cut (ps_if (pt_cmpR op_eq (pe_ix ix_tup (pv 0) pe_int (fun _ _ => rfl)) pe_str (nomark _))
    (pss_one (ps_set (i := 2) sc_law_replies.nd rfl (Or.inl rfl) (pe_op op_cat (pv 2) (pe_lc (own := [("_law_answer", 4)]) (g := gName 4) (tt := tYes) (by rfl) sc_law_replies.nd (pi_list (C8.pe_c C_law_answers hr (by decide) rfl (pa_cons (pe_tup (pa_cons (pe_ix ix_tup (pv 0) pe_int (fun _ _ => rfl)) (pa_cons (pe_ix ix_tup (pv 0) pe_int (fun _ _ => rfl)) pa_nil))) pa_nil))) (blkOk_by (N := sc_law_replies_N) (sc := defScope s_law_replies) (by decide +kernel)) (fun _ _ _ _ _ => pg_name (i := 4) sc_law_replies.nd rfl (Or.inl rfl)) (fun _ _ _ _ _ => pts_nil) (fun _ _ _ _ _ => (pe_tup (pa_cons pe_str (pa_cons (pv 4) pa_nil))))))))
    pss_nil)
  (pss_one (ps_ret (pe_callB (cr_sortN hr.u43) (by rfl) T.z_sorted (by decide +kernel) (pa_cons (pv 2) pa_nil)))))))), ?_⟩
  refine ⟨_, rfl, y, m, rfl, hm, fun r H1 S1 ho => ?_⟩
  refine ⟨by show 0 ≤ sizeLine; decide, fun fp hfp1 => ?_⟩
  have hfp : H fp = none := S1.free hfp1
  have S01 : Same H (upd H1 fp (.lst [])) := S1.trans (same_up hfp1 _)
  have h0 : (upd H1 fp (.lst [])) fp = some (.lst []) := upd_same
  have ho : OptS K (upd H1 fp (.lst [])) r (told m) := OptS.tk (Tk.new hfp1) ho
  generalize upd H1 fp (.lst []) = H1 at S01 h0 ho ⊢
  refine ⟨fun σ H' => ∃ (fp : Addr) (fs : List V) (v3 v4 : Option V), σ = [some y, some r, some (.ref fp), v3, v4] ∧ H' fp = some (.lst fs) ∧ H fp = none ∧ DnAll K H' fs (raw1 m) ∧ Same H H', ?_, ?_⟩
  · refine ⟨_, rfl, rfl, _, rfl, ?_⟩
    rw [OptS.non ho]
    cases eT : told m with
    | none =>
      refine iteF ?_
      exact ⟨fp, [], none, none, rfl, h0, hfp, by rw [optS_none ho eT]; exact .nil, S01⟩
    | some R =>
      refine iteT ?_
      rw [eT] at ho
      obtain ⟨wf, wo⟩ := words_few R
      refine ⟨_, rfl, r, R, rfl, ho, fun p H2 S2 hp h2 => ?_⟩
      refine ⟨p, rfl, ⟨_, SqL.of h2⟩, fun D hD => ?_⟩
      have S3 : Same H2 (upd H2 D (.lst [])) := same_up hD _
      have S02 := S01.trans S2
      refine lc_list (K := K) (a := p) (xs := (words R).map V.str) (fun i H' => ∃ acc : List V, H' D = some (.lst acc) ∧ DnAll K H' acc (((words R).take i).map dN) ∧ acc.length = i ∧ Same H2 H') ⟨[], upd_same, .nil, rfl, S3⟩ ?_ ?_ ?_
      · rintro i H' _ ⟨_, _, _, _, e⟩
        exact SqL.of (e _ _ h2)
      · rintro i x H' hi ⟨acc, hacc, hd, hl, e⟩
        have hil := (List.getElem?_eq_some_iff.mp hi).1
        rw [List.length_map] at hil
        rw [List.getElem?_map] at hi
        obtain ⟨wd, hwd, rfl⟩ := Option.map_eq_some_iff.mp hi
        refine ⟨rfl, _, rfl, by show 2 ≤ sizeLine; decide, fun t ht => ?_⟩
        obtain ⟨k1, k2, k3⟩ := doubt_lc (p := p) hwd (wo _ (List.mem_of_getElem? hwd)) hacc hd ht hD e
        exact ⟨acc, k1, small1000 (by omega), acc ++ [.ref t], upd_same, k2, by rw [List.length_append, hl]; rfl, k3⟩
      · rintro H' ⟨acc, hacc, hd, hl, e⟩
        rw [List.length_map, List.take_length] at hd
        exact ⟨D, acc, _, _, rfl, hacc, S02.free hD, by rw [raw1_some eT]; exact hd, S02.trans e⟩
  · rintro σ H2 ⟨fp2, fs, v3, v4, rfl, hf2, hn2, hd2, S2⟩
    have lf : fs.length ≤ 2 := by
      rw [hd2.len]
      exact le1
    refine ⟨fun σ H' => ∃ (fp : Addr) (fs : List V) (v3 v4 : Option V), σ = [some y, some r, some (.ref fp), v3, v4] ∧ H' fp = some (.lst fs) ∧ DnAll K H' fs (raw1 m ++ raw2 m) ∧ Same H H', ?_, ?_⟩
    · cases m with
      | answer A =>
        obtain ⟨t, u, z, rfl, hs, hz, _⟩ := hm
        refine ⟨_, rfl, t, _, 0, _, rfl, rfl, Same.sqt S2 hs, at_head, rfl, _, rfl, ite2 (fun c => absurd (of_decide_eq_true c) (by decide +kernel)) (fun _ => ?_)⟩
        exact ⟨fp2, fs, v3, v4, rfl, hf2, by rw [show raw2 (.answer A) = [] from rfl, List.append_nil]; exact hd2, S2⟩
      | doubt wd S =>
        obtain ⟨t, v, rfl, hs, g, hw⟩ := hm
        have hs2 := Same.sqt S2 hs
        refine ⟨_, rfl, t, _, 0, _, rfl, rfl, hs2, at_head, rfl, _, rfl, ite2 (fun _ => ?_) (fun c => absurd (by decide +kernel) c)⟩
        refine ⟨_, rfl, _, rfl, t, _, 1, _, rfl, rfl, hs2, at_one, _, rfl, t, _, 2, _, rfl, rfl, hs2, at_two, by show 2 ≤ sizeLine; decide, fun t2 ht2 => ?_⟩
        have S3 : Same H2 (upd H2 t2 (.tup [.str wd, v])) := same_up ht2 _
        refine ⟨t2, wd, v, S, rfl, SqT.of upd_same, g.tk (Tk.same (S2.trans S3)), .inr hw, fun p ys H3 S4 hp hy hyd => ?_⟩
        refine ⟨p, rfl, ⟨_, SqL.of hy⟩, fun D hD => ?_⟩
        have S5 : Same H3 (upd H3 D (.lst [])) := same_up hD _
        have hly : ys.length = (answers wd S).length := by
          have := hyd.len
          rwa [List.length_map] at this
        refine lc_list (K := K) (a := p) (xs := ys) (fun i H' => ∃ acc : List V, H' D = some (.lst acc) ∧ DnAll K H' acc (((answers wd S).take i).map aN) ∧ acc.length = i ∧ Same H3 H') ⟨[], upd_same, .nil, rfl, S5⟩ ?_ ?_ ?_
        · rintro i H' _ ⟨_, _, _, _, e⟩
          exact SqL.of (e _ _ hy)
        · rintro i x H' hi ⟨acc, hacc, hd, hl, e⟩
          have hil := (List.getElem?_eq_some_iff.mp hi).1
          obtain ⟨d, hd1, hx⟩ := hyd.get hi
          rw [List.getElem?_map] at hd1
          obtain ⟨A, hA, rfl⟩ := Option.map_eq_some_iff.mp hd1
          refine ⟨rfl, _, rfl, by show 2 ≤ sizeLine; decide, fun t3 ht3 => ?_⟩
          obtain ⟨k1, k2, k3⟩ := answer_lc hA (hx.tk (Tk.same e)) hacc hd ht3 hD e
          have : (answers wd S).length ≤ 2 := (an_few (.inr hw)).1
          exact ⟨acc, k1, small1000 (by omega), acc ++ [.ref t3], upd_same, k2, by rw [List.length_append, hl]; rfl, k3⟩
        · rintro H' ⟨acc, hacc, hd, hl, e⟩
          rw [hly, List.take_length] at hd
          have S2' : Same H2 H' := S3.trans (S4.trans e)
          have hf' := S2' _ _ hf2
          have : (answers wd S).length ≤ 2 := (an_few (.inr hw)).1
          refine ⟨fp2, D, fs, acc, rfl, rfl, hf', hacc, Nat.le_of_lt (small1000 (by omega)), fun np hnp => ?_⟩
          have S9 : Same H' (upd H' np (.lst (fs ++ acc))) := same_up hnp _
          exact ⟨np, fs ++ acc, _, _, rfl, upd_same, DnAll.mono (Tk.same S9) _ _ ((DnAll.mono (Tk.same S2') _ _ hd2).app hd), S2.trans (S2'.trans S9)⟩
    · rintro σ H3 ⟨fp3, fs3, v3, v4, rfl, hf3, hd3, S3⟩
      refine ⟨_, rfl, fp3, fs3, raw1 m ++ raw2 m, rfl, SqL.of hf3, hd3.mem, raw_srt els, fun ys p pm pw hp => ?_⟩
      obtain ⟨es, e1, e2, e3⟩ := sort_fin (o := .lst ys) hd3 pm pw hp
      exact q p ys es _ (S3.trans (same_up hp _)) (S3.free hp) upd_same e1 e2 e3
end
end TC


namespace TC
open PySem PySem.Spec PyProof.Rows L2
section
variable {P : Program} {w : World} {K : PySem.W.Frag} {mg : Str → Option Value} {base : Heap}
/-- what holds of the list of moves while it grows -/
structure Grow (K : PySem.W.Frag) (H H1 H' : Hp) (fp : Addr) (fs : List V) (n : Nat) : Prop where
  at_ : H' fp = some (.lst fs)
  new : H fp = none
  mv : ∀ z ∈ fs, ∃ m, MvAt K H' z m
  len : fs.length ≤ n
  tk : Tk H1 H'
  same : Same H H'
theorem ok_all_moves {f : Addr} {fd : FuncData} (F : Fun K "_law_all_moves" "_law_all_moves" s_law_all_moves f fd) (T : Top w K mg) (C_law_all_parts : C8.Cal P w K mg base 11 "_law_all_parts" (spParts K 10) []) (C_law_words : C8.Cal P w K mg base 1 "_law_words" (spWords K) [])
    (C_law_answers : C8.Cal P w K mg base 1 "_law_answers" (spAnswers K) []) : FnOk P w K mg base CX0 12 f fd ["_law_saying_here"] (spMoves K) := by
  refine F.ok sc_law_all_moves (fun vs H Q E h => ?_) (fun cdv A outer s H vs Q E hr h => ?_)
  · obtain ⟨v, S, rfl, _⟩ := h
    rfl
  have hu := hu_of hr
  obtain ⟨v, S, rfl, g, h19, q⟩ := h
  refine ⟨_, (pss_cons (ps_set (i := 1) sc_law_all_moves.nd rfl (Or.inl rfl) (pe_lst (pa_cons (pe_tup (pa_cons pe_str (pa_cons (pe_tup (pa_cons pe_str (pa_cons (pv 0) pa_nil))) (pa_cons (pv 0) pa_nil)))) pa_nil)))
  (pss_cons (ps_for PassesOwn.never rfl (pi_list (C8.pe_c C_law_all_parts hr (by decide) rfl (pa_cons (pv 0) pa_nil))) (pg_name (i := 2) sc_law_all_moves.nd rfl (Or.inr rfl))
    (pss_one (ps_for PassesOwn.never rfl (pi_list (C8.pe_c C_law_words hr (by decide) rfl (pa_cons (pv 2) pa_nil))) (pg_name (i := 3) sc_law_all_moves.nd rfl (Or.inr rfl))
      (pss_cons (ps_expr (pe_bm PySem.F.plainAttrs_list PySem.F.slot_list_append PySem.F.type_list_append mt_append (pv 1) (pa_cons (pe_tup (pa_cons pe_str (pa_cons (pv 3) (pa_cons (pv 2) pa_nil)))) pa_nil)))
      (pss_one (ps_set (i := 1) sc_law_all_moves.nd rfl (Or.inl rfl) (pe_op op_cat (pv 1) (pe_lc (own := [("_law_answer", 4)]) (g := gName 4) (tt := tYes) (by rfl) sc_law_all_moves.nd (pi_list (C8.pe_c C_law_answers hr (by decide) rfl (pa_cons (pe_tup (pa_cons (pv 3) (pa_cons (pv 2) pa_nil))) pa_nil))) (blkOk_by (N := sc_law_all_moves_N) (sc := defScope s_law_all_moves) (by decide +kernel)) (fun _ _ _ _ _ => pg_name (i := 4) sc_law_all_moves.nd rfl (Or.inl rfl)) (fun _ _ _ _ _ => pts_nil) (fun _ _ _ _ _ => (pe_tup (pa_cons pe_str (pa_cons (pe_tup (pa_cons (pv 3) (pa_cons (pv 2) pa_nil))) (pa_cons (pv 4) pa_nil)))))))))))))
  (pss_one (ps_ret (pv 1))))), ?_⟩
  have hdep := g.dep
  refine ⟨_, rfl, by show 2 ≤ sizeLine; decide, fun t1 ht1 => ?_⟩
  have S1 : Same H (upd H t1 (.tup [.str "begin", v])) := same_up ht1 _
  refine ⟨_, rfl, by show 3 ≤ sizeLine; decide, fun t2 ht2 => ?_⟩
  have S2 : Same (upd H t1 (.tup [.str "begin", v])) (upd (upd H t1 (.tup [.str "begin", v])) t2 (.tup [.str "answer", .ref t1, v])) := same_up ht2 _
  have ha2 : SqT K (upd (upd H t1 (.tup [.str "begin", v])) t2 (.tup [.str "answer", .ref t1, v])) t2 [.str "answer", .ref t1, v] := SqT.of upd_same
  have S12 := S1.trans S2
  generalize upd (upd H t1 (.tup [.str "begin", v])) t2 (.tup [.str "answer", .ref t1, v]) = H2 at S12 ha2 ⊢
  refine ⟨by show 1 ≤ sizeLine; decide, fun fp hfp => ?_⟩
  have S3 : Same H2 (upd H2 fp (.lst [.ref t2])) := same_up hfp _
  have hm0 : MvAt K (upd H2 fp (.lst [.ref t2])) (.ref t2) (.answer S) := ⟨t2, .ref t1, v, rfl, Same.sqt S3 ha2, g.1.tk (Tk.same (S12.trans S3)), hdep⟩
  have hf3 : (upd H2 fp (.lst [.ref t2])) fp = some (.lst [.ref t2]) := upd_same
  have S13 := S12.trans S3
  have hnf := S12.free hfp
  generalize upd H2 fp (.lst [.ref t2]) = H3 at S13 hm0 hf3 ⊢
  refine ⟨_, rfl, v, S, rfl, g.1.tk (Tk.same S13), hdep, by omega, by omega, fun p ys H4 S4 hp hy hys hyl => ?_⟩
  have S14 := S13.trans S4
  refine ⟨p, rfl, ⟨_, SqL.of hy⟩, ?_⟩
  have hgd : ∀ y ∈ ys, ∃ R, Gd K H4 y R := fun y h => gd_part (g.tk (Tk.same S14)) (hys y h)
  have hpf : fp ≠ p := ne_of_none hf3 hp
  refine for_list (K := K) (a := p) (xs := ys) (fun i σ H' => ∃ (fp : Addr) (fs : List V) (v2 v3 v4 : Option V), σ = [some v, some (.ref fp), v2, v3, v4] ∧ Grow K H H4 H' fp fs (1 + 6 * i) ∧ H' p = some (.lst ys) ∧ fp ≠ p) ⟨fp, _, none, none, none, rfl, ⟨S4 _ _ hf3, hnf, fun z hz => by
    rw [List.mem_singleton.mp hz]
    exact ⟨_, hm0.tk (Tk.same S4)⟩, Nat.le_refl _, Tk.refl _, S14⟩, hy, hpf⟩ ?_ ?_ ?_
  · rintro i σ H' _ ⟨_, _, _, _, _, _, _, e, _⟩
    exact SqL.of e
  · rintro i x σ H5 hi ⟨fp5, fs5, v2, v3, v4, rfl, G5, hy5, ne5⟩
    obtain ⟨R, gR⟩ := hgd x (List.mem_of_getElem? hi)
    have hil := (List.getElem?_eq_some_iff.mp hi).1
    have gR5 := gR.tk G5.tk
    obtain ⟨wf, wo⟩ := words_few R
    refine ⟨_, rfl, x, R, rfl, gR5.1, fun p6 H6 S6 hp6 h6 => ?_⟩
    refine ⟨p6, rfl, ⟨_, SqL.of h6⟩, ?_⟩
    have ne6 : fp5 ≠ p6 := ne_of_none G5.at_ hp6
    have ne66 : p ≠ p6 := ne_of_none hy5 hp6
    refine for_list (K := K) (a := p6) (xs := (words R).map V.str) (fun j σ H' => ∃ (fp : Addr) (fs : List V) (v3 v4 : Option V), σ = [some v, some (.ref fp), some x, v3, v4] ∧ Grow K H H4 H' fp fs (1 + 6 * i + 3 * j) ∧ H' p = some (.lst ys) ∧ fp ≠ p ∧ H' p6 = some (.lst ((words R).map V.str)) ∧ fp ≠ p6)
      ⟨fp5, fs5, _, _, rfl, ⟨S6 _ _ G5.at_, G5.new, fun z hz => by
        obtain ⟨m, hm⟩ := G5.mv z hz
        exact ⟨m, hm.tk (Tk.same S6)⟩, by have := G5.len; omega, G5.tk.trans (Tk.same S6), G5.same.trans S6⟩, S6 _ _ hy5, ne5, h6, ne6⟩ ?_ ?_ ?_
    · rintro j σ H' _ ⟨_, _, _, _, _, _, _, _, e, _⟩
      exact SqL.of e
    · rintro j u σ H7 hj ⟨fp7, fs7, v3', v4', rfl, G7, hy7, ne7, h67, ne67⟩
      have hjl := (List.getElem?_eq_some_iff.mp hj).1
      rw [List.length_map] at hjl
      rw [List.getElem?_map] at hj
      obtain ⟨wd, hwd, rfl⟩ := Option.map_eq_some_iff.mp hj
      have hw : wd ∈ words R := List.mem_of_getElem? hwd
      have gR7 := gR.tk G7.tk
      refine ⟨_, rfl, .inl ⟨rfl, _, SqL.of G7.at_⟩, _, rfl, _, rfl, by show 3 ≤ sizeLine; decide, fun t3 ht3 => ?_⟩
      have S8 : Same H7 (upd H7 t3 (.tup [.str "doubt", .str wd, x])) := same_up ht3 _
      have G7l := G7.len
      refine ⟨fp7, fs7, _, rfl, rfl, S8 _ _ G7.at_, small1000 (by omega), ?_⟩
      have K9 : Tk (upd H7 t3 (.tup [.str "doubt", .str wd, x])) (upd (upd H7 t3 (.tup [.str "doubt", .str wd, x])) fp7 (.lst (fs7 ++ [.ref t3]))) := Tk.lst (S8 _ _ G7.at_)
      have K79 := (Tk.same S8).trans K9
      have G9 : Grow K H H4 (upd (upd H7 t3 (.tup [.str "doubt", .str wd, x])) fp7 (.lst (fs7 ++ [.ref t3]))) fp7 (fs7 ++ [.ref t3]) (1 + 6 * i + 3 * j + 1) := {
        at_ := upd_same
        new := G7.new
        mv := fun z hz => by
          rcases List.mem_append.mp hz with h | h
          · obtain ⟨m, hm⟩ := G7.mv z h
            exact ⟨m, hm.tk K79⟩
          · rw [List.mem_singleton.mp h]
            exact ⟨.doubt wd R, t3, x, rfl, K9.sqt (SqT.of upd_same), gR7.tk K79, hw⟩
        len := by rw [List.length_append]; simp; omega
        tk := G7.tk.trans K79
        same := fun b o hb => by
          rw [upd_ne (ne_of_none hb G7.new)]
          exact S8 _ _ (G7.same _ _ hb) }
      have hy9 : (upd (upd H7 t3 (.tup [.str "doubt", .str wd, x])) fp7 (.lst (fs7 ++ [.ref t3]))) p = some (.lst ys) := by
        rw [upd_ne (Ne.symm ne7)]
        exact S8 _ _ hy7
      have h69 : (upd (upd H7 t3 (.tup [.str "doubt", .str wd, x])) fp7 (.lst (fs7 ++ [.ref t3]))) p6 = some (.lst ((words R).map V.str)) := by
        rw [upd_ne (Ne.symm ne67)]
        exact S8 _ _ h67
      generalize upd (upd H7 t3 (.tup [.str "doubt", .str wd, x])) fp7 (.lst (fs7 ++ [.ref t3])) = H9 at G9 hy9 h69 ⊢
      clear K9 K79
      have gR9 := gR.tk G9.tk
      have G9l := G9.len
      refine ⟨_, rfl, _, rfl, _, rfl, by show 2 ≤ sizeLine; decide, fun t4 ht4 => ?_⟩
      have S10 : Same H9 (upd H9 t4 (.tup [.str wd, x])) := same_up ht4 _
      refine ⟨t4, wd, x, R, rfl, SqT.of upd_same, gR9.tk (Tk.same S10), .inr hw, fun p5 as H11 S11 hp5 h5 d5 => ?_⟩
      have S911 := S10.trans S11
      refine ⟨p5, rfl, ⟨_, SqL.of h5⟩, fun D hD => ?_⟩
      have S12' : Same H11 (upd H11 D (.lst [])) := same_up hD _
      have lan := (an_few (.inr hw : wd = "begin" ∨ wd ∈ words R)).1
      have adp := (an_few (.inr hw : wd = "begin" ∨ wd ∈ words R)).2
      have hla : as.length = (answers wd R).length := by
        have := d5.len
        rwa [List.length_map] at this
      refine lc_list (K := K) (a := p5) (xs := as) (fun k H' => ∃ acc : List V, H' D = some (.lst acc) ∧ (∀ z ∈ acc, ∃ m, MvAt K H' z m) ∧ acc.length = k ∧ Same H11 H') ⟨[], upd_same, (fun z hz => nomatch hz), rfl, S12'⟩ ?_ ?_ ?_
      · rintro k H' _ ⟨_, _, _, _, e⟩
        exact SqL.of (e _ _ h5)
      · rintro k z H' hk ⟨acc, hacc, hmv, hl, e⟩
        have hkl := (List.getElem?_eq_some_iff.mp hk).1
        obtain ⟨d, hd1, hz⟩ := d5.get hk
        rw [List.getElem?_map] at hd1
        obtain ⟨A, hA, rfl⟩ := Option.map_eq_some_iff.mp hd1
        refine ⟨rfl, _, rfl, _, rfl, by show 2 ≤ sizeLine; decide, fun t5 ht5 => ?_⟩
        have S13' : Same H' (upd H' t5 (.tup [.str wd, x])) := same_up ht5 _
        refine ⟨_, rfl, by show 3 ≤ sizeLine; decide, fun t6 ht6 => ?_⟩
        have S14' : Same (upd H' t5 (.tup [.str wd, x])) (upd (upd H' t5 (.tup [.str wd, x])) t6 (.tup [.str "answer", .ref t5, z])) := same_up ht6 _
        have h6' : (upd (upd H' t5 (.tup [.str wd, x])) t6 (.tup [.str "answer", .ref t5, z])) t6 = some (.tup [.str "answer", .ref t5, z]) := upd_same
        have S134 := S13'.trans S14'
        generalize upd (upd H' t5 (.tup [.str wd, x])) t6 (.tup [.str "answer", .ref t5, z]) = H8 at S134 h6' ⊢
        have hacc8 := S134 _ _ hacc
        have k8 : Tk H8 (upd H8 D (.lst (acc ++ [.ref t6]))) := Tk.lst hacc8
        refine ⟨acc, hacc8, small1000 (by omega), acc ++ [.ref t6], upd_same, fun y hy => ?_, by rw [List.length_append, hl]; rfl, ?_⟩
        · rcases List.mem_append.mp hy with h | h
          · obtain ⟨m, hm⟩ := hmv y h
            exact ⟨m, (hm.tk (Tk.same S134)).tk k8⟩
          · rw [List.mem_singleton.mp h]
            exact ⟨.answer A, t6, .ref t5, z, rfl, k8.sqt (SqT.of h6'), ((hz.tk (Tk.same e)).tk (Tk.same S134)).tk k8, Nat.le_trans (adp A (List.mem_of_getElem? hA)) gR.dep⟩
        · intro b o hb
          rw [upd_ne (ne_of_none hb hD)]
          exact S134 _ _ (e _ _ hb)
      · rintro H' ⟨acc, hacc, hmv, hl, e⟩
        have S9' := S911.trans e
        have hf' := S9' _ _ G9.at_
        refine ⟨fp7, D, fs7 ++ [.ref t3], acc, rfl, rfl, hf', hacc, Nat.le_of_lt (small1000 (by omega)), fun np hnp => ?_⟩
        have S15 : Same H' (upd H' np (.lst ((fs7 ++ [.ref t3]) ++ acc))) := same_up hnp _
        have S915 := S9'.trans S15
        refine ⟨np, _, _, _, rfl, ⟨upd_same, G9.same.free (S9'.free hnp), fun z hz => ?_, by rw [List.length_append]; omega, G9.tk.trans (Tk.same S915), G9.same.trans S915⟩, S915 _ _ hy9, ?_, S915 _ _ h69, ?_⟩
        · rcases List.mem_append.mp hz with h | h
          · obtain ⟨m, hm⟩ := G9.mv z h
            exact ⟨m, hm.tk (Tk.same S915)⟩
          · obtain ⟨m, hm⟩ := hmv z h
            exact ⟨m, hm.tk (Tk.same S15)⟩
        · exact fun e' => ne_of_none (S9' _ _ hy9) hnp e'.symm
        · exact fun e' => ne_of_none (S9' _ _ h69) hnp e'.symm
    · rintro σ H7 ⟨fp7, fs7, v3', v4', rfl, G7, hy7, ne7, h67, ne67⟩
      rw [List.length_map] at G7
      exact ⟨fp7, fs7, _, _, _, rfl, ⟨G7.at_, G7.new, G7.mv, by have := G7.len; omega, G7.tk, G7.same⟩, hy7, ne7⟩
  · rintro σ H5 ⟨fp5, fs5, v2, v3, v4, rfl, G5, hy5, ne5⟩
    exact ⟨_, rfl, q fp5 fs5 H5 G5.same G5.at_ G5.mv (by have := G5.len; omega)⟩
theorem ok_law {f : Addr} {fd : FuncData} (F : Fun K "law" "law" s_law f fd) (T : Top w K mg) (C_law_deal : C8.Cal P w K mg base 1 "_law_deal" (spDeal K) []) (C_law_draw : C8.Cal P w K mg base 1 "_law_draw" spDraw []) (C_law_names : C8.Cal P w K mg base 2 "_law_names" spNames [])
    (C_law_saying : C8.Cal P w K mg base 10 "_law_saying" (spSaying K 9) []) (C_law_all_moves : C8.Cal P w K mg base 12 "_law_all_moves" (spMoves K) []) (C_told_by : C8.Cal P w K mg base 2 "told_by" (spTold K) []) (C_law_says : C8.Cal P w K mg base 1 "_law_says" (spTold K) [])
    (C_replies : C8.Cal P w K mg base 3 "replies" (spReplies K) []) (C_law_replies : C8.Cal P w K mg base 2 "_law_replies" (spReplies K) []) (C_law_alike : C8.Cal P w K mg base 14 "_law_alike" (spAlike K 14) []) : FnOk P w K mg base CX0 60 f fd ["_law_script"] (spLaw K) := by
  refine F.ok sc_law (fun vs H Q E h => ?_) (fun cdv A outer s H vs Q E hr h => ?_)
  · obtain ⟨a, ns, rfl, _⟩ := h
    rfl
  have hu := hu_of hr
  obtain ⟨a, ns, rfl, hS, h63, q⟩ := h
  refine ⟨_, (pss_cons (ps_set (i := 1) sc_law.nd rfl (Or.inl rfl) (C8.pe_c C_law_deal hr (by decide) rfl (pa_cons (pv 0) (pa_cons pe_int pa_nil))))
  (pss_cons (ps_set (i := 2) sc_law.nd rfl (Or.inl rfl) (C8.pe_c C_law_saying hr (by decide) rfl (pa_cons (pv 1) (pa_cons (C8.pe_c C_law_names hr (by decide) rfl (pa_cons (pv 1) (pa_cons (pe_op op_add pe_int (C8.pe_c C_law_draw hr (by decide) rfl (pa_cons (pv 1) (pa_cons pe_int pa_nil)))) pa_nil))) (pa_cons (pe_op op_add pe_int (C8.pe_c C_law_draw hr (by decide) rfl (pa_cons (pv 1) (pa_cons pe_int pa_nil)))) pa_nil)))))
  (C8.pss_cut (ps_if (pt_cmpR op_eq (C8.pe_c C_law_draw hr (by decide) rfl (pa_cons (pv 1) (pa_cons pe_int pa_nil))) pe_int (nomark _))
    (pss_one (ps_set (i := 2) sc_law.nd rfl (Or.inl rfl) (pe_tup (pa_cons pe_str (pa_cons (pv 2) (pa_cons (pv 2) pa_nil))))))
    pss_nil)
  (pss_cons (ps_for PassesOwn.never rfl (pi_list (pe_op op_rep (C8.pe_c C_law_all_moves hr (by decide) rfl (pa_cons (pv 2) pa_nil)) pe_int)) (pg_name (i := 3) sc_law.nd rfl (Or.inl rfl))
    (pss_cons (ps_set (i := 4) sc_law.nd rfl (Or.inl rfl) (C8.pe_c C_told_by hr (by decide) rfl (pa_cons (pv 3) pa_nil)))
    (pss_cons (ps_set (i := 5) sc_law.nd rfl (Or.inl rfl) (C8.pe_c C_law_says hr (by decide) rfl (pa_cons (pv 3) pa_nil)))
    (pss_cons (ps_if (PW.pt (pw_or (pt_cmpR op_ne (pe_cmpR op_isN (pv 4) pe_non (nomark _)) (pe_cmpR op_isN (pv 5) pe_non (nomark _)) (nomark _)) (pw_or1 (pt_cmpR (op_neD hr.units) (pv 4) (pv 5) (nomark _)))))
      (pss_one (ps_ret pe_bl))
      pss_nil)
    (pss_cons (ps_set (i := 6) sc_law.nd rfl (Or.inl rfl) (C8.pe_c C_replies hr (by decide) rfl (pa_cons (pv 3) pa_nil)))
    (pss_cons (ps_if (pt_not (pt_val (C8.pe_c C_law_alike hr (by decide) rfl (pa_cons (pv 6) (pa_cons (C8.pe_c C_law_replies hr (by decide) rfl (pa_cons (pv 3) pa_nil)) pa_nil)))))
      (pss_one (ps_ret pe_bl))
      pss_nil)
    (pss_one (ps_expr (pe_bm PySem.F.plainAttrs_list PySem.F.slot_list_append PySem.F.type_list_append mt_append (pv 6) (pa_cons pe_str pa_nil))))))))))
  (pss_one (ps_ret pe_bl)))))), ?_⟩
  refine ⟨_, rfl, a, ns, rfl, hS, h63, fun d l H1 D1 S1 hd0 hl0 => ?_⟩
  refine ⟨_, rfl, _, rfl, _, rfl, d, l, _, rfl, D1, by decide, by decide, fun r1 H2 r10 r11 D2 O2 => ?_⟩
  refine ⟨_, _, rfl, rfl, d, l, _, rfl, D2, by omega, by omega, fun p nms H3 M3 hlen hnm D3 O3 => ?_⟩
  refine ⟨_, rfl, d, l, _, rfl, D3, by decide, by decide, fun r2 H4 r20 r21 D4 O4 => ?_⟩
  refine ⟨_, _, rfl, rfl, d, l, p, _, nms, rfl, D4, M3.old O4, by omega, by omega, fun x hx => (hnm x hx).ok, by omega, by omega, by decide, fun v S H5 hv hsz D5 O5 => ?_⟩
  refine ⟨fun σ H' => ∃ (v : V) (S : Say), σ = [some (.ref a), some (.ref d), some v, none, none, none, none] ∧ Gd K H' v S ∧ S.size ≤ 19, ?_, ?_⟩
  · refine ⟨_, rfl, d, l, _, rfl, D5, by decide, by decide, fun r3 H6 r30 r31 D6 O6 => ?_⟩
    have hv6 := hv.tk (O6.tk D5)
    refine ⟨rfl, _, rfl, ?_⟩
    refine ite2 (fun _ => ?_) (fun _ => ?_)
    · refine ⟨_, rfl, _, rfl, by show 3 ≤ sizeLine; decide, fun t ht => ?_⟩
      have hv7 := hv6.tk (Tk.new (o := .tup [.str "or", v, v]) ht)
      exact ⟨.ref t, .bin .or S S, rfl, ⟨mk_bin (o := .or) (SqT.of upd_same) hv7 hv7, .inr ⟨t, v, S, rfl, SqT.of upd_same, rfl, by omega, hv7⟩⟩, by show S.size + S.size + 1 ≤ 19; omega⟩
    · exact ⟨v, S, rfl, ⟨hv6, .inl (by omega)⟩, by omega⟩
  · clear D1 D2 D3 D4 D5 M3 O2 O3 O4 O5 hv hsz hnm hlen hd0 hl0 S1 hS
    rintro σ H1 ⟨v, S, rfl, g, hz⟩
    refine ⟨_, rfl, v, S, rfl, g, hz, fun p ys H2 S2 hy hys hyl => ?_⟩
    refine ⟨p, 2, ys, rfl, rfl, hy, by decide, by decide, ?_, fun p2 hp2 => ?_⟩
    · show ys.length * 2 ≤ sizeLine
      exact Nat.le_trans (by omega : ys.length * 2 ≤ 400) (by decide)
    have S3 : Same H2 (upd H2 p2 (.lst (List.replicate (Int.toNat 2) ys).flatten)) := same_up hp2 _
    have hgd : ∀ y ∈ (List.replicate (Int.toNat 2) ys).flatten, ∃ m, MvAt K (upd H2 p2 (.lst (List.replicate (Int.toNat 2) ys).flatten)) y m := fun y hy2 => by
      obtain ⟨m, hm⟩ := hys y (flat_mem hy2)
      exact ⟨m, hm.tk (Tk.same S3)⟩
    have h2 : (upd H2 p2 (.lst (List.replicate (Int.toNat 2) ys).flatten)) p2 = some (.lst (List.replicate (Int.toNat 2) ys).flatten) := upd_same
    generalize (List.replicate (Int.toNat 2) ys).flatten = zs at S3 hgd h2 ⊢
    generalize upd H2 p2 (.lst zs) = H3 at S3 hgd h2 ⊢
    refine ⟨p2, rfl, ⟨_, SqL.of h2⟩, ?_⟩
    refine for_list (K := K) (a := p2) (xs := zs) (fun i σ H' => ∃ v3 v4 v5 v6 : Option V, σ = [some (.ref a), some (.ref d), some v, v3, v4, v5, v6] ∧ Same H3 H') ⟨none, none, none, none, rfl, Same.refl _⟩ ?_ ?_ ?_
    · rintro i σ H' _ ⟨_, _, _, _, _, e⟩
      exact SqL.of (e _ _ h2)
    · rintro i x σ H4 hi ⟨v3, v4, v5, v6, rfl, S4⟩
      obtain ⟨m, hm⟩ := hgd x (List.mem_of_getElem? hi)
      have hm4 := hm.tk (Tk.same S4)
      obtain ⟨els, le1, le2⟩ := raw_els hm
      refine ⟨_, rfl, x, m, rfl, hm4, fun r1 H5 S5 o1 => ?_⟩
      refine ⟨_, rfl, x, m, rfl, hm4.tk (Tk.same S5), fun r2 H6 S6 o2 => ?_⟩
      have o16 := o1.tk (Tk.same S6)
      refine ⟨_, rfl, rfl, _, rfl, rfl, rfl, _, rfl, ?_⟩
      rw [OptS.non o16, OptS.non o2]
      refine ite2 (fun c => absurd c (by simp)) (fun _ => ?_)
      obtain ⟨g1, k1, k2, k3, k4⟩ := o16.dp fun R hR => Nat.le_trans (told_dep hm R hR) (by decide)
      obtain ⟨g2, m1, m2, m3, m4⟩ := o2.dp fun R hR => Nat.le_trans (told_dep hm R hR) (by decide)
      have e12 : g1 = g2 := k4.trans m4.symm
      subst e12
      refine ⟨_, rfl, _, rfl, g1, g1, k1, m1, k2, k2, _, rfl, ?_⟩
      rw [k3]
      refine iteF ?_
      have hm6 := (hm4.tk (Tk.same S5)).tk (Tk.same S6)
      refine ⟨_, rfl, x, m, rfl, hm6, fun p7 ys7 ds7 H7 S7 hp7 h7 d7 pm7 pw7 => ?_⟩
      refine ⟨_, rfl, _, rfl, x, m, rfl, hm6.tk (Tk.same S7), fun p8 ys8 ds8 H8 S8 hp8 h8 d8 pm8 pw8 => ?_⟩
      have e78 : ds7 = ds8 := sort_uniq (pm7.trans pm8.symm) pw7 pw8
      subst e78
      have l7 : ds7.length ≤ 4 := by
        rw [pm7.length_eq, List.length_append]
        omega
      have el7 : ∀ e ∈ ds7, RawEl e := fun e he => els e (pm7.mem_iff.mp he)
      obtain ⟨a1, a2, a3⟩ := raw_list (S8 _ _ h7) (DnAll.mono (Tk.same S8) _ _ d7) (by omega) el7
      obtain ⟨b1, _, _⟩ := raw_list h8 d8 (by omega) el7
      refine ⟨_, _, _, rfl, a1, b1, a2, a3, by omega, fun H9 S9 => ?_⟩
      refine ⟨_, rfl, iteF ?_⟩
      have S39 : Same H3 H9 := S4.trans (S5.trans (S6.trans (S7.trans (S8.trans S9))))
      have h79 := S9 _ _ (S8 _ _ h7)
      have l77 : ys7.length ≤ 4 := by
        rw [d7.len]
        exact l7
      refine ⟨_, rfl, .inl ⟨rfl, _, SqL.of h79⟩, p7, _, _, rfl, rfl, h79, small1000 (by omega), ?_⟩
      refine ⟨_, _, _, _, rfl, fun b o hb => ?_⟩
      rw [upd_ne (ne_of_none ((S4.trans (S5.trans S6)) _ _ hb) hp7)]
      exact S39 _ _ hb
    · rintro σ H4 ⟨v3, v4, v5, v6, rfl, S4⟩
      exact q H4
theorem ok_all {f : Addr} {fd : FuncData} (T : Top w K mg) (F : Fun K "law" "law" s_law f fd) : FnOk P w K mg base CX0 60 f fd ["_law_script"] (spLaw K) := by
  have c1 : C8.Cal P w K mg base 1 "_law_deal" (spDeal K) [] := T.d_law_deal.cal fun f fd F => ok_deal F T
  have c2 : C8.Cal P w K mg base 1 "_law_draw" spDraw [] := T.d_law_draw.cal fun f fd F => ok_draw F T
  have c3 : C8.Cal P w K mg base 2 "_law_names" spNames [] := T.d_law_names.cal fun f fd F => ok_names F T c2
  have c4 : C8.Cal P w K mg base 10 "_law_saying" (spSaying K 9) [] := ok_saying T c2 9
  have c5 : C8.Cal P w K mg base 11 "_law_all_parts" (spParts K 10) [] := ok_parts T 10
  have c6 : C8.Cal P w K mg base 1 "doubts_of" (spWords K) [] := T.d_doubts_of.cal fun f fd F => ok_doubts_of F T
  have c7 : C8.Cal P w K mg base 1 "_law_words" (spWords K) [] := T.d_law_words.cal fun f fd F => ok_words F T
  have c8 : C8.Cal P w K mg base 14 "_law_alike" (spAlike K 14) [] := ok_alike T 14
  have c9 : C8.Cal P w K mg base 1 "said_by" (spSaid K) [] := T.d_said_by.cal fun f fd F => ok_said_by F T
  have c10 : C8.Cal P w K mg base 1 "answers_to" (spAnswers K) [] := T.d_answers_to.cal fun f fd F => ok_answers_to F T
  have c11 : C8.Cal P w K mg base 1 "_law_answers" (spAnswers K) [] := T.d_law_answers.cal fun f fd F => ok_answers F T
  have c12 : C8.Cal P w K mg base 2 "told_by" (spTold K) [] := T.d_told_by.cal fun f fd F => ok_told_by F T c9
  have c13 : C8.Cal P w K mg base 1 "_law_says" (spTold K) [] := T.d_law_says.cal fun f fd F => ok_says F T
  have c14 : C8.Cal P w K mg base 3 "replies" (spReplies K) [] := T.d_replies.cal fun f fd F => ok_replies F T c12 c6 c10
  have c15 : C8.Cal P w K mg base 2 "_law_replies" (spReplies K) [] := T.d_law_replies.cal fun f fd F => ok_law_replies F T c13 c7 c11
  have c16 : C8.Cal P w K mg base 12 "_law_all_moves" (spMoves K) [] := T.d_law_all_moves.cal fun f fd F => ok_all_moves F T c5 c7 c11
  exact ok_law F T c1 c2 c3 c4 c16 c12 c13 c14 c15 c8
end
end TC


namespace TC
open PySem PySem.Spec PyProof.Rows L2
section
theorem all_mk {P : Program} {w : World} {K : PySem.W.Frag} {h : Heap} {mg : Str → Option Value} {fa : Addr} (X : K.In h) (G : h.Ns mainGlobals mg) (hfa : mg "law" = some (.ref fa))
    {f0 f1 f2 f3 f4 f5 f6 f7 f8 f9 f10 f11 f12 f13 f14 f15 f16 : Addr} {od0 od1 od2 od3 od4 od5 od6 od7 od8 od9 od10 od11 od12 od13 od14 od15 od16 an0 an1 an2 an3 an4 an5 an6 an7 an8 an9 an10 an11 an12 an13 an14 an15 an16 : Option Addr} {sl0 sl1 sl2 sl3 sl4 sl5 sl6 sl7 sl8 sl9 sl10 sl11 sl12 sl13 sl14 sl15 sl16 : Array (Option Value)} {oc0 oc1 oc2 oc3 oc4 oc5 oc6 oc7 oc8 oc9 oc10 oc11 oc12 oc13 oc14 oc15 oc16 kV0 kV1 kV2 kV3 kV4 kV5 kV6 kV7 kV8 kV9 kV10 kV11 kV12 kV13 kV14 kV15 kV16 dc0 dc1 dc2 dc3 dc4 dc5 dc6 dc7 dc8 dc9 dc10 dc11 dc12 dc13 dc14 dc15 dc16 pm0 pm1 pm2 pm3 pm4 pm5 pm6 pm7 pm8 pm9 pm10 pm11 pm12 pm13 pm14 pm15 pm16 cd0 cd1 cd2 cd3 cd4 cd5 cd6 cd7 cd8 cd9 cd10 cd11 cd12 cd13 cd14 cd15 cd16 ct0 ct1 ct2 ct3 ct4 ct5 ct6 ct7 ct8 ct9 ct10 ct11 ct12 ct13 ct14 ct15 ct16 : Value} {wd0 : Addr} {we0 : Array DictEntry} {wn0 : Nat} {wt0_0 : Addr} {wo0_0 : Option Addr} {wm0_0 : Nat} {ws0_0 : Array (Option Value)}  {wt0_1 : Addr} {wo0_1 : Option Addr} {wm0_1 : Nat} {ws0_1 : Array (Option Value)} {tk0_1_0 : Tok} {wt0_2 : Addr} {wo0_2 : Option Addr} {wm0_2 : Nat} {ws0_2 : Array (Option Value)} {tk0_2_0 tk0_2_1 : Tok} {wt0_3 : Addr} {wo0_3 : Option Addr} {wm0_3 : Nat} {ws0_3 : Array (Option Value)} {tk0_3_0 : Tok} {wt0_4 : Addr} {wo0_4 : Option Addr} {wm0_4 : Nat} {ws0_4 : Array (Option Value)} {tk0_4_0 : Tok}
    (a0 : PySem.W.nsIn K mainGlobals "doubts_of" = some (some (.ref f0))) (l0 : K.lookup f0 = some ⟨oc0, od0, .func (PySem.W.fnOf "doubts_of" "doubts_of" (defArgs s_doubts_of) (defBody s_doubts_of) (defScope s_doubts_of) .none kV0 dc0 pm0 an0 cd0 ct0), sl0⟩) (c0 : PySem.W.codeIn K cd0 "doubts_of" = true) (k0 : PySem.W.keepIn K (.ref f0) = true)
    (a1 : PySem.W.nsIn K mainGlobals "answers_to" = some (some (.ref f1))) (l1 : K.lookup f1 = some ⟨oc1, od1, .func (PySem.W.fnOf "answers_to" "answers_to" (defArgs s_answers_to) (defBody s_answers_to) (defScope s_answers_to) .none kV1 dc1 pm1 an1 cd1 ct1), sl1⟩) (c1 : PySem.W.codeIn K cd1 "answers_to" = true) (k1 : PySem.W.keepIn K (.ref f1) = true)
    (a2 : PySem.W.nsIn K mainGlobals "said_by" = some (some (.ref f2))) (l2 : K.lookup f2 = some ⟨oc2, od2, .func (PySem.W.fnOf "said_by" "said_by" (defArgs s_said_by) (defBody s_said_by) (defScope s_said_by) .none kV2 dc2 pm2 an2 cd2 ct2), sl2⟩) (c2 : PySem.W.codeIn K cd2 "said_by" = true) (k2 : PySem.W.keepIn K (.ref f2) = true)
    (a3 : PySem.W.nsIn K mainGlobals "told_by" = some (some (.ref f3))) (l3 : K.lookup f3 = some ⟨oc3, od3, .func (PySem.W.fnOf "told_by" "told_by" (defArgs s_told_by) (defBody s_told_by) (defScope s_told_by) .none kV3 dc3 pm3 an3 cd3 ct3), sl3⟩) (c3 : PySem.W.codeIn K cd3 "told_by" = true) (k3 : PySem.W.keepIn K (.ref f3) = true)
    (a4 : PySem.W.nsIn K mainGlobals "replies" = some (some (.ref f4))) (l4 : K.lookup f4 = some ⟨oc4, od4, .func (PySem.W.fnOf "replies" "replies" (defArgs s_replies) (defBody s_replies) (defScope s_replies) .none kV4 dc4 pm4 an4 cd4 ct4), sl4⟩) (c4 : PySem.W.codeIn K cd4 "replies" = true) (k4 : PySem.W.keepIn K (.ref f4) = true)
    (a5 : PySem.W.nsIn K mainGlobals "_law_deal" = some (some (.ref f5))) (l5 : K.lookup f5 = some ⟨oc5, od5, .func (PySem.W.fnOf "_law_deal" "_law_deal" (defArgs s_law_deal) (defBody s_law_deal) (defScope s_law_deal) .none kV5 dc5 pm5 an5 cd5 ct5), sl5⟩) (c5 : PySem.W.codeIn K cd5 "_law_deal" = true) (k5 : PySem.W.keepIn K (.ref f5) = true)
    (a6 : PySem.W.nsIn K mainGlobals "_law_draw" = some (some (.ref f6))) (l6 : K.lookup f6 = some ⟨oc6, od6, .func (PySem.W.fnOf "_law_draw" "_law_draw" (defArgs s_law_draw) (defBody s_law_draw) (defScope s_law_draw) .none kV6 dc6 pm6 an6 cd6 ct6), sl6⟩) (c6 : PySem.W.codeIn K cd6 "_law_draw" = true) (k6 : PySem.W.keepIn K (.ref f6) = true)
    (a7 : PySem.W.nsIn K mainGlobals "_law_names" = some (some (.ref f7))) (l7 : K.lookup f7 = some ⟨oc7, od7, .func (PySem.W.fnOf "_law_names" "_law_names" (defArgs s_law_names) (defBody s_law_names) (defScope s_law_names) .none kV7 dc7 pm7 an7 cd7 ct7), sl7⟩) (c7 : PySem.W.codeIn K cd7 "_law_names" = true) (k7 : PySem.W.keepIn K (.ref f7) = true)
    (a8 : PySem.W.nsIn K mainGlobals "_law_saying" = some (some (.ref f8))) (l8 : K.lookup f8 = some ⟨oc8, od8, .func (PySem.W.fnOf "_law_saying" "_law_saying" (defArgs s_law_saying) (defBody s_law_saying) (defScope s_law_saying) .none kV8 dc8 pm8 an8 cd8 ct8), sl8⟩) (c8 : PySem.W.codeIn K cd8 "_law_saying" = true) (k8 : PySem.W.keepIn K (.ref f8) = true)
    (a9 : PySem.W.nsIn K mainGlobals "_law_words" = some (some (.ref f9))) (l9 : K.lookup f9 = some ⟨oc9, od9, .func (PySem.W.fnOf "_law_words" "_law_words" (defArgs s_law_words) (defBody s_law_words) (defScope s_law_words) .none kV9 dc9 pm9 an9 cd9 ct9), sl9⟩) (c9 : PySem.W.codeIn K cd9 "_law_words" = true) (k9 : PySem.W.keepIn K (.ref f9) = true)
    (a10 : PySem.W.nsIn K mainGlobals "_law_answers" = some (some (.ref f10))) (l10 : K.lookup f10 = some ⟨oc10, od10, .func (PySem.W.fnOf "_law_answers" "_law_answers" (defArgs s_law_answers) (defBody s_law_answers) (defScope s_law_answers) .none kV10 dc10 pm10 an10 cd10 ct10), sl10⟩) (c10 : PySem.W.codeIn K cd10 "_law_answers" = true) (k10 : PySem.W.keepIn K (.ref f10) = true)
    (a11 : PySem.W.nsIn K mainGlobals "_law_says" = some (some (.ref f11))) (l11 : K.lookup f11 = some ⟨oc11, od11, .func (PySem.W.fnOf "_law_says" "_law_says" (defArgs s_law_says) (defBody s_law_says) (defScope s_law_says) .none kV11 dc11 pm11 an11 cd11 ct11), sl11⟩) (c11 : PySem.W.codeIn K cd11 "_law_says" = true) (k11 : PySem.W.keepIn K (.ref f11) = true)
    (a12 : PySem.W.nsIn K mainGlobals "_law_replies" = some (some (.ref f12))) (l12 : K.lookup f12 = some ⟨oc12, od12, .func (PySem.W.fnOf "_law_replies" "_law_replies" (defArgs s_law_replies) (defBody s_law_replies) (defScope s_law_replies) .none kV12 dc12 pm12 an12 cd12 ct12), sl12⟩) (c12 : PySem.W.codeIn K cd12 "_law_replies" = true) (k12 : PySem.W.keepIn K (.ref f12) = true)
    (a13 : PySem.W.nsIn K mainGlobals "_law_all_parts" = some (some (.ref f13))) (l13 : K.lookup f13 = some ⟨oc13, od13, .func (PySem.W.fnOf "_law_all_parts" "_law_all_parts" (defArgs s_law_all_parts) (defBody s_law_all_parts) (defScope s_law_all_parts) .none kV13 dc13 pm13 an13 cd13 ct13), sl13⟩) (c13 : PySem.W.codeIn K cd13 "_law_all_parts" = true) (k13 : PySem.W.keepIn K (.ref f13) = true)
    (a14 : PySem.W.nsIn K mainGlobals "_law_alike" = some (some (.ref f14))) (l14 : K.lookup f14 = some ⟨oc14, od14, .func (PySem.W.fnOf "_law_alike" "_law_alike" (defArgs s_law_alike) (defBody s_law_alike) (defScope s_law_alike) .none kV14 dc14 pm14 an14 cd14 ct14), sl14⟩) (c14 : PySem.W.codeIn K cd14 "_law_alike" = true) (k14 : PySem.W.keepIn K (.ref f14) = true)
    (a15 : PySem.W.nsIn K mainGlobals "_law_all_moves" = some (some (.ref f15))) (l15 : K.lookup f15 = some ⟨oc15, od15, .func (PySem.W.fnOf "_law_all_moves" "_law_all_moves" (defArgs s_law_all_moves) (defBody s_law_all_moves) (defScope s_law_all_moves) .none kV15 dc15 pm15 an15 cd15 ct15), sl15⟩) (c15 : PySem.W.codeIn K cd15 "_law_all_moves" = true) (k15 : PySem.W.keepIn K (.ref f15) = true)
    (a16 : PySem.W.nsIn K mainGlobals "law" = some (some (.ref f16))) (l16 : K.lookup f16 = some ⟨oc16, od16, .func (PySem.W.fnOf "law" "law" (defArgs s_law) (defBody s_law) (defScope s_law) .none kV16 dc16 pm16 an16 cd16 ct16), sl16⟩) (c16 : PySem.W.codeIn K cd16 "law" = true) (k16 : PySem.W.keepIn K (.ref f16) = true)
    (z_len : PySem.W.nsIn K mainGlobals "len" = some none)
    (z_max : PySem.W.nsIn K mainGlobals "max" = some none)
    (z_list : PySem.W.nsIn K mainGlobals "list" = some none)
    (z_reversed : PySem.W.nsIn K mainGlobals "reversed" = some none)
    (z_range : PySem.W.nsIn K mainGlobals "range" = some none)
    (z_sorted : PySem.W.nsIn K mainGlobals "sorted" = some none)
    (z_set : PySem.W.nsIn K mainGlobals "set" = some none)
    (z_isinstance : PySem.W.nsIn K mainGlobals "isinstance" = some none)
    (z_tuple : PySem.W.nsIn K mainGlobals "tuple" = some none)
    (z_str : PySem.W.nsIn K mainGlobals "str" = some none)
    (z_all : PySem.W.nsIn K mainGlobals "all" = some none)
    (z_zip : PySem.W.nsIn K mainGlobals "zip" = some none)
    (z_int : PySem.W.nsIn K mainGlobals "int" = some none)
    (wa0 : PySem.W.nsIn K mainGlobals "WORDS" = some (some (.ref wd0))) (wl0 : K.lookup wd0 = some ⟨.type "dict", none, .dict we0 wn0, #[]⟩) (wk0 : PySem.W.KeysLit w.params we0.toList)
    (wi0_0 : PySem.W.nsIn K wd0 "say" = some (some (.ref wt0_0))) (wj0_0 : K.lookup wt0_0 = some ⟨.type "tuple", wo0_0, .seq #[] wm0_0, ws0_0⟩)
    (wi0_1 : PySem.W.nsIn K wd0 "not" = some (some (.ref wt0_1))) (wj0_1 : K.lookup wt0_1 = some ⟨.type "tuple", wo0_1, .seq #[.str "not" tk0_1_0] wm0_1, ws0_1⟩)
    (wi0_2 : PySem.W.nsIn K wd0 "and" = some (some (.ref wt0_2))) (wj0_2 : K.lookup wt0_2 = some ⟨.type "tuple", wo0_2, .seq #[.str "left" tk0_2_0, .str "right" tk0_2_1] wm0_2, ws0_2⟩)
    (wi0_3 : PySem.W.nsIn K wd0 "or" = some (some (.ref wt0_3))) (wj0_3 : K.lookup wt0_3 = some ⟨.type "tuple", wo0_3, .seq #[.str "which" tk0_3_0] wm0_3, ws0_3⟩)
    (wi0_4 : PySem.W.nsIn K wd0 "if" = some (some (.ref wt0_4))) (wj0_4 : K.lookup wt0_4 = some ⟨.type "tuple", wo0_4, .seq #[.str "if" tk0_4_0] wm0_4, ws0_4⟩)
    : ∃ fd : FuncData, (∀ (s : Shared) (v : Value), BindsTo s fd ⟨[v], []⟩ [("_law_script", v)]) ∧ ∀ base : Heap, K.In base → base.Ns mainGlobals mg → FnOk P w K mg base CX0 60 fa fd ["_law_script"] (spLaw K) := by
  have e := hfa.symm.trans (PySem.W.mg_of X G a16)
  cases e
  have F0 := fun_mk (st := s_doubts_of) l0 c0 k0
  have D0 : DefAt K mg "doubts_of" s_doubts_of ["saying"] := ⟨_, _, F0, PySem.W.mg_of X G a0, F0.binds (ps := ["saying"]) fun _ _ _ _ _ _ us hl => match us, hl with | [_], _ => rfl⟩
  have F1 := fun_mk (st := s_answers_to) l1 c1 k1
  have D1 : DefAt K mg "answers_to" s_answers_to ["doubt"] := ⟨_, _, F1, PySem.W.mg_of X G a1, F1.binds (ps := ["doubt"]) fun _ _ _ _ _ _ us hl => match us, hl with | [_], _ => rfl⟩
  have F2 := fun_mk (st := s_said_by) l2 c2 k2
  have D2 : DefAt K mg "said_by" s_said_by ["doubt"] := ⟨_, _, F2, PySem.W.mg_of X G a2, F2.binds (ps := ["doubt"]) fun _ _ _ _ _ _ us hl => match us, hl with | [_], _ => rfl⟩
  have F3 := fun_mk (st := s_told_by) l3 c3 k3
  have D3 : DefAt K mg "told_by" s_told_by ["move"] := ⟨_, _, F3, PySem.W.mg_of X G a3, F3.binds (ps := ["move"]) fun _ _ _ _ _ _ us hl => match us, hl with | [_], _ => rfl⟩
  have F4 := fun_mk (st := s_replies) l4 c4 k4
  have D4 : DefAt K mg "replies" s_replies ["move"] := ⟨_, _, F4, PySem.W.mg_of X G a4, F4.binds (ps := ["move"]) fun _ _ _ _ _ _ us hl => match us, hl with | [_], _ => rfl⟩
  have F5 := fun_mk (st := s_law_deal) l5 c5 k5
  have D5 : DefAt K mg "_law_deal" s_law_deal ["_law_script", "_law_base"] := ⟨_, _, F5, PySem.W.mg_of X G a5, F5.binds (ps := ["_law_script", "_law_base"]) fun _ _ _ _ _ _ us hl => match us, hl with | [_, _], _ => rfl⟩
  have F6 := fun_mk (st := s_law_draw) l6 c6 k6
  have D6 : DefAt K mg "_law_draw" s_law_draw ["_law_deal_here", "_law_many"] := ⟨_, _, F6, PySem.W.mg_of X G a6, F6.binds (ps := ["_law_deal_here", "_law_many"]) fun _ _ _ _ _ _ us hl => match us, hl with | [_, _], _ => rfl⟩
  have F7 := fun_mk (st := s_law_names) l7 c7 k7
  have D7 : DefAt K mg "_law_names" s_law_names ["_law_deal_here", "_law_many"] := ⟨_, _, F7, PySem.W.mg_of X G a7, F7.binds (ps := ["_law_deal_here", "_law_many"]) fun _ _ _ _ _ _ us hl => match us, hl with | [_, _], _ => rfl⟩
  have F8 := fun_mk (st := s_law_saying) l8 c8 k8
  have D8 : DefAt K mg "_law_saying" s_law_saying ["_law_deal_here", "_law_names_here", "_law_many"] := ⟨_, _, F8, PySem.W.mg_of X G a8, F8.binds (ps := ["_law_deal_here", "_law_names_here", "_law_many"]) fun _ _ _ _ _ _ us hl => match us, hl with | [_, _, _], _ => rfl⟩
  have F9 := fun_mk (st := s_law_words) l9 c9 k9
  have D9 : DefAt K mg "_law_words" s_law_words ["_law_saying_here"] := ⟨_, _, F9, PySem.W.mg_of X G a9, F9.binds (ps := ["_law_saying_here"]) fun _ _ _ _ _ _ us hl => match us, hl with | [_], _ => rfl⟩
  have F10 := fun_mk (st := s_law_answers) l10 c10 k10
  have D10 : DefAt K mg "_law_answers" s_law_answers ["_law_doubt"] := ⟨_, _, F10, PySem.W.mg_of X G a10, F10.binds (ps := ["_law_doubt"]) fun _ _ _ _ _ _ us hl => match us, hl with | [_], _ => rfl⟩
  have F11 := fun_mk (st := s_law_says) l11 c11 k11
  have D11 : DefAt K mg "_law_says" s_law_says ["_law_move"] := ⟨_, _, F11, PySem.W.mg_of X G a11, F11.binds (ps := ["_law_move"]) fun _ _ _ _ _ _ us hl => match us, hl with | [_], _ => rfl⟩
  have F12 := fun_mk (st := s_law_replies) l12 c12 k12
  have D12 : DefAt K mg "_law_replies" s_law_replies ["_law_move"] := ⟨_, _, F12, PySem.W.mg_of X G a12, F12.binds (ps := ["_law_move"]) fun _ _ _ _ _ _ us hl => match us, hl with | [_], _ => rfl⟩
  have F13 := fun_mk (st := s_law_all_parts) l13 c13 k13
  have D13 : DefAt K mg "_law_all_parts" s_law_all_parts ["_law_saying_here"] := ⟨_, _, F13, PySem.W.mg_of X G a13, F13.binds (ps := ["_law_saying_here"]) fun _ _ _ _ _ _ us hl => match us, hl with | [_], _ => rfl⟩
  have F14 := fun_mk (st := s_law_alike) l14 c14 k14
  have D14 : DefAt K mg "_law_alike" s_law_alike ["_law_found", "_law_due"] := ⟨_, _, F14, PySem.W.mg_of X G a14, F14.binds (ps := ["_law_found", "_law_due"]) fun _ _ _ _ _ _ us hl => match us, hl with | [_, _], _ => rfl⟩
  have F15 := fun_mk (st := s_law_all_moves) l15 c15 k15
  have D15 : DefAt K mg "_law_all_moves" s_law_all_moves ["_law_saying_here"] := ⟨_, _, F15, PySem.W.mg_of X G a15, F15.binds (ps := ["_law_saying_here"]) fun _ _ _ _ _ _ us hl => match us, hl with | [_], _ => rfl⟩
  have F16 := fun_mk (st := s_law) l16 c16 k16
  have D16 : DefAt K mg "law" s_law ["_law_script"] := ⟨_, _, F16, PySem.W.mg_of X G a16, F16.binds (ps := ["_law_script"]) fun _ _ _ _ _ _ us hl => match us, hl with | [_], _ => rfl⟩
  have T : Top w K mg :=
    ⟨D0,
      D1,
      D2,
      D3,
      D4,
      D5,
      D6,
      D7,
      D8,
      D9,
      D10,
      D11,
      D12,
      D13,
      D14,
      D15,
      D16,
      PySem.W.mg_none_of X G z_len,
      PySem.W.mg_none_of X G z_max,
      PySem.W.mg_none_of X G z_list,
      PySem.W.mg_none_of X G z_reversed,
      PySem.W.mg_none_of X G z_range,
      PySem.W.mg_none_of X G z_sorted,
      PySem.W.mg_none_of X G z_set,
      PySem.W.mg_none_of X G z_isinstance,
      PySem.W.mg_none_of X G z_tuple,
      PySem.W.mg_none_of X G z_str,
      PySem.W.mg_none_of X G z_all,
      PySem.W.mg_none_of X G z_zip,
      PySem.W.mg_none_of X G z_int,
      ⟨_, PySem.W.mg_of X G wa0, ⟨_, ⟨_, _, _, wl0, wk0, wi0_0, rfl⟩, .inr ⟨_, _, _, wj0_0, rfl, rfl, (by show 0 ≤ sizeLine; decide), .nil⟩⟩, ⟨_, ⟨_, _, _, wl0, wk0, wi0_1, rfl⟩, .inr ⟨_, _, _, wj0_1, rfl, rfl, (by show 1 ≤ sizeLine; decide), .cons ⟨_, rfl⟩ (.nil)⟩⟩, ⟨_, ⟨_, _, _, wl0, wk0, wi0_2, rfl⟩, .inr ⟨_, _, _, wj0_2, rfl, rfl, (by show 2 ≤ sizeLine; decide), .cons ⟨_, rfl⟩ (.cons ⟨_, rfl⟩ (.nil))⟩⟩, ⟨_, ⟨_, _, _, wl0, wk0, wi0_3, rfl⟩, .inr ⟨_, _, _, wj0_3, rfl, rfl, (by show 1 ≤ sizeLine; decide), .cons ⟨_, rfl⟩ (.nil)⟩⟩, ⟨_, ⟨_, _, _, wl0, wk0, wi0_4, rfl⟩, .inr ⟨_, _, _, wj0_4, rfl, rfl, (by show 1 ≤ sizeLine; decide), .cons ⟨_, rfl⟩ (.nil)⟩⟩⟩⟩
  exact ⟨_, fun s v => .of_eq rfl, fun base _ _ => ok_all T F16⟩
theorem walk {l : PySem.W.OpenLaw} {q : Program} {loose : List Str} {XP : (Str → Option Value) → Heap → Prop} {YP : World → Heap → Prop} {d : DefRec} {K : Params → PySem.W.Frag} (hn : l.most = some 63) (hdf : d.params.defaults = [])
    (hY : ∀ (w : World) (h : Heap), YP w h → (K w.params).In h)
    (F : ∀ (w : World) (mg : Str → Option Value) (fa : Addr) (h : Heap), (K w.params).In h → h.Ns mainGlobals mg → mg d.name = some (.ref fa) →
      ∃ fd : FuncData, (∀ (s : Shared) (u : Value), BindsTo s fd ⟨[u], []⟩ [("_law_script", u)]) ∧ ∀ base : Heap, (K w.params).In base → base.Ns mainGlobals mg → FnOk l.prog w (K w.params) mg base CX0 60 fa fd ["_law_script"] (spLaw (K w.params))) :
    PySem.W.WalkO q loose XP YP l.row.toRowW d [] (fun f vs => PySem.call f vs) :=
  L2.walk_of (n := 63) (k := 60) (x := "_law_script") (CX := fun _ => CX0) (sp := fun w => spLaw (K w.params)) hn (by decide) hdf ⟨rfl, by decide, by decide⟩ hY F (fun _ _ a ns hl _ hS => ⟨a, ns, rfl, hS, hl, fun _ => rfl⟩) fun _ _ _ _ _ z => z
end
end TC
open PySem PySem.W PyProof.Rows
set_option maxRecDepth 100000 in
set_option maxHeartbeats 0 in
theorem PySem.Challenge.cw_talkcourt_k22_replies_holds : PySem.Challenge.rw_talkcourt_k22_replies.Holds := by
  w_on; o_law; k_head; (case hw => w_witness2)
  k_fill
  refine TC.walk (l := PySem.Challenge.rw_talkcourt_k22_replies) rfl rfl (fun w h Y => PySem.W.kIn_of Y) ?F
  case F =>
    intro w mg fa h KX G hmg
    refine' TC.all_mk KX G hmg ?a0 ?l0 ?c0 ?k0 ?a1 ?l1 ?c1 ?k1 ?a2 ?l2 ?c2 ?k2 ?a3 ?l3 ?c3 ?k3 ?a4 ?l4 ?c4 ?k4 ?a5 ?l5 ?c5 ?k5 ?a6 ?l6 ?c6 ?k6 ?a7 ?l7 ?c7 ?k7 ?a8 ?l8 ?c8 ?k8 ?a9 ?l9 ?c9 ?k9 ?a10 ?l10 ?c10 ?k10 ?a11 ?l11 ?c11 ?k11 ?a12 ?l12 ?c12 ?k12 ?a13 ?l13 ?c13 ?k13 ?a14 ?l14 ?c14 ?k14 ?a15 ?l15 ?c15 ?k15 ?a16 ?l16 ?c16 ?k16 ?z_len ?z_max ?z_list ?z_reversed ?z_range ?z_sorted ?z_set ?z_isinstance ?z_tuple ?z_str ?z_all ?z_zip ?z_int ?wa0 ?wl0 ?wk0 ?wi0_0 ?wj0_0 ?wi0_1 ?wj0_1 ?wi0_2 ?wj0_2 ?wi0_3 ?wj0_3 ?wi0_4 ?wj0_4
    (case a0 => k_is); (case l0 => k_is); (case c0 => k_is); (case k0 => k_is)
    (case a1 => k_is); (case l1 => k_is); (case c1 => k_is); (case k1 => k_is)
    (case a2 => k_is); (case l2 => k_is); (case c2 => k_is); (case k2 => k_is)
    (case a3 => k_is); (case l3 => k_is); (case c3 => k_is); (case k3 => k_is)
    (case a4 => k_is); (case l4 => k_is); (case c4 => k_is); (case k4 => k_is)
    (case a5 => k_is); (case l5 => k_is); (case c5 => k_is); (case k5 => k_is)
    (case a6 => k_is); (case l6 => k_is); (case c6 => k_is); (case k6 => k_is)
    (case a7 => k_is); (case l7 => k_is); (case c7 => k_is); (case k7 => k_is)
    (case a8 => k_is); (case l8 => k_is); (case c8 => k_is); (case k8 => k_is)
    (case a9 => k_is); (case l9 => k_is); (case c9 => k_is); (case k9 => k_is)
    (case a10 => k_is); (case l10 => k_is); (case c10 => k_is); (case k10 => k_is)
    (case a11 => k_is); (case l11 => k_is); (case c11 => k_is); (case k11 => k_is)
    (case a12 => k_is); (case l12 => k_is); (case c12 => k_is); (case k12 => k_is)
    (case a13 => k_is); (case l13 => k_is); (case c13 => k_is); (case k13 => k_is)
    (case a14 => k_is); (case l14 => k_is); (case c14 => k_is); (case k14 => k_is)
    (case a15 => k_is); (case l15 => k_is); (case c15 => k_is); (case k15 => k_is)
    (case a16 => k_is); (case l16 => k_is); (case c16 => k_is); (case k16 => k_is)
    (case z_len => k_is)
    (case z_max => k_is)
    (case z_list => k_is)
    (case z_reversed => k_is)
    (case z_range => k_is)
    (case z_sorted => k_is)
    (case z_set => k_is)
    (case z_isinstance => k_is)
    (case z_tuple => k_is)
    (case z_str => k_is)
    (case z_all => k_is)
    (case z_zip => k_is)
    (case z_int => k_is)
    (case wa0 => k_is); (case wl0 => k_is); (case wk0 => k_keys)
    (case wi0_0 => k_is); (case wj0_0 => k_is)
    (case wi0_1 => k_is); (case wj0_1 => k_is)
    (case wi0_2 => k_is); (case wj0_2 => k_is)
    (case wi0_3 => k_is); (case wj0_3 => k_is)
    (case wi0_4 => k_is); (case wj0_4 => k_is)

