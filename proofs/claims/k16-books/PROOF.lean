import PyProof.Rows.All
import Wide.All
import OpenK.AllK
import Wide.FinOn
import HandS.ForMost
import HandS.Rev
import HandS.Codes
import HandS.Wide
import HandS.Style
import HandS.Deep
import HandS.Zip
import HandS.ReplaceLit
import HandS.IsInst
import KE.KDictList
import HandS.SortOrd
import HandS.TupSets
import KE.KeyNested
import KE.LtSeq
import KE.KSortTup
import PyProof.Rows.SortKeyStr
import HandS.SetFor
import HandS.More
import HandS.Defaults
import PyProof.StrReplace2
import HandS.ReplaceList
import HandS.TupLe
import HandS.NoneIn
import PySem.Challenge.RW_talkcourt_k16_books_read
set_option Elab.async false
set_option linter.all false
set_option maxRecDepth 100000
set_option maxHeartbeats 4000000
namespace TC
open PySem PySem.Spec PyProof.Rows L2

section
variable {prog : Program} {w : World} {A : Around} {E : Value → Shared → Prop} {s : Shared}
/-- a list that stands empty takes what a reverse iterator gives -/
theorem rev_fill {R : Result → Shared → Prop} {it l S : Addr} {items : Array Value} {c₀ : Nat} (hh : A.handled = none) (hit : s.heap.IsRevIter it l ((items.size : Int) - 1)) (hl : s.heap.IsList l items) (hne : l ≠ it)
    (hSi : S ≠ it) (hSl : S ≠ l) (hn : items.size ≤ sizeLine) (hS : s.heap.get? S = some { cls := .type "list", data := .seq #[] c₀ })
    (hR : ∀ h' tk acc c', (∀ b o, b ≠ S → b ≠ it → s.heap.get? b = some o → h'.get? b = some o) → h'.get? S = some { cls := .type "list", dict := none, data := .seq acc c', slots := #[] } →
      ItemsOf (fun i v => items[items.size - 1 - i]? = some v) acc items.size → R (.ok (.ret .none)) { s with heap := h', toks := tk }) :
    wpAny (model prog w) A.in1 (Builtin.List.listExtendWith (.ref S) (.ref it) .none)
      (fun fin t => match fin with | .done f => R (.ok f) t | .again c => c.quiet = true ∧ codeAny (model prog w) A c R t) (fun e t => R (.error e) t) s := by
  have W := (Walks.listRev (prog := prog) (w := w) (A := A.in1) hh it l hne items).toS
  have hSf : S ∉ [it, l] := by
    intro q
    rcases List.mem_cons.mp q with q | q
    · exact hSi q
    · exact hSl (List.mem_singleton.mp q)
  have hT : s.TypeIs (.ref it) "list_reverseiterator" := Heap.IsRevIter.typeIs (s := s) hit
  have h1 : Builtin.List.listSameRef (.ref S) (.ref it) = false := by simp [Builtin.List.listSameRef, hSi]
  unfold Builtin.List.listExtendWith
  refine wpAny_bind (wpAny_typeOf hT ?_)
  rw [if_neg (by rw [h1]; decide)]
  refine wpAny_bind (wpAny_pyIter_revIter hit ?_)
  refine wpAny_bind (wpAny_holding ?_)
  unfold Builtin.List.listLengthHint
  refine wpAny_bind (wpAny_specialOf hT RT.nolen_lri ?_)
  show wpAny _ A.in1 (specialOf (Value.ref it) (Str.ofString "__length_hint__") >>= _) _ _ _
  refine wpAny_bind (wpAny_specialOf hT RT.hint_lri ?_)
  generalize hid : ("list_reverseiterator.__length_hint__" : String) = id0
  wp_delta
  rw [show splitId id0 = some ("list_reverseiterator", "__length_hint__") from by subst hid; decide +kernel]
  subst hid
  refine wpAny_bind (wpAny_isInstance (b := true) hT (by rw [isSubtype_type]; kernel_rfl) ?_)
  refine wpAny_pure ?_
  rw [if_neg (by decide)]
  have e0 : ((items.size : Nat) : Int) - 1 - ((0 : Nat) : Int) = (items.size : Int) - 1 := by omega
  refine wpAny_pure ⟨plainId_quiet PySem.F.plain_extend_loop _, codeAny_extend_loopS W hn _ hSf _ items.size 0 _ _ _ rfl (Nat.zero_le _) ⟨Nat.zero_le _, by rw [e0]; exact hit, hl⟩ hS (ItemsOf.nil _) fun t acc c hm hS' hacc => ?_⟩
  rw [Moved.eq_with hm]
  refine hR t.heap t.toks acc c (fun b o hb hb2 e => hm.heap b o (fun q => ?_) e) hS' hacc
  rcases List.mem_cons.mp q with q | q
  · exact hb q
  · exact hb2 (List.mem_singleton.mp q)
theorem rev_init {R : Result → Shared → Prop} {it l S : Addr} {items : Array Value} (hh : A.handled = none) (hit : s.heap.IsRevIter it l ((items.size : Int) - 1)) (hl : s.heap.IsList l items) (hne : l ≠ it)
    (hSi : S ≠ it) (hSl : S ≠ l) (hn : items.size ≤ sizeLine) (hS : s.heap.get? S = some { cls := .type "list", data := .seq #[] })
    (hR : ∀ h' tk acc c', (∀ b o, b ≠ S → b ≠ it → s.heap.get? b = some o → h'.get? b = some o) → h'.get? S = some { cls := .type "list", dict := none, data := .seq acc c', slots := #[] } →
      ItemsOf (fun i v => items[items.size - 1 - i]? = some v) acc items.size → R (.ok (.ret .none)) { s with heap := h', toks := tk }) :
    wpAny (model prog w) A.in1 (Builtin.«list.__init__» ⟨[.ref S, .ref it], []⟩)
      (fun fin t => match fin with | .done f => R (.ok f) t | .again c => c.quiet = true ∧ codeAny (model prog w) A c R t) (fun e t => R (.error e) t) s := by
  show wpAny _ _ (do let was ← Builtin.List.listItems (.ref S); Builtin.List.listUpdate (.ref S) (fun _ => #[]); letGo was.toList.reverse; Builtin.List.listExtendWith (.ref S) (.ref it) .none) _ _ s
  refine wpAny_bind ?_
  unfold Builtin.List.listItems
  refine wpAny_bind (wpAny_seqItems hS rfl (wpAny_pure ?_))
  show wpAny _ _ (updateSeq S (fun _ => #[]) >>= fun _ => letGo (#[] : Array Value).toList.reverse >>= fun _ => Builtin.List.listExtendWith (.ref S) (.ref it) .none) _ _ s
  refine wpAny_bind (wpAny_updateSeq hS rfl ?_)
  have hS2 := Heap.get?_update_self (Obj.mapSeq (fun _ => (#[] : Array Value))) hS rfl
  have oth : ∀ b o, b ≠ S → s.heap.get? b = some o → (s.heap.update S (Obj.mapSeq (fun _ => (#[] : Array Value)))).get? b = some o :=
    fun b o hb e => (Heap.get?_update_other _ _ (Ne.symm hb)).trans e
  refine wpAny_bind (wpAny_letGo ?_)
  have hit2 := hit.at fun o e => oth it o (Ne.symm hSi) e
  obtain ⟨o, e, c⟩ := id hl
  have hl2 : (s.heap.update S (Obj.mapSeq (fun _ => (#[] : Array Value)))).IsList l items := ⟨o, oth _ o (Ne.symm hSl) e, c⟩
  refine rev_fill (c₀ := _) hh hit2 hl2 hne hSi hSl hn hS2 fun h' tk acc c' hk hS' hacc => ?_
  exact hR h' tk acc c' (fun b o hb hb2 e => hk b o hb hb2 (oth b o hb e)) hS' hacc
/-- list(it), it a reverse iterator over a list -/
theorem call_list_rev {it l : Addr} {items : Array Value} {Q : Value → Shared → Prop} (hh : A.handled = none) (hit : s.heap.IsRevIter it l ((items.size : Int) - 1)) (hl : s.heap.IsList l items) (hne : l ≠ it) (hn : items.size ≤ sizeLine)
    (hQ : ∀ h' tk acc c', (∀ b o, b ≠ it → s.heap.get? b = some o → h'.get? b = some o) → h'.get? s.heap.objs.size = some { cls := .type "list", dict := none, data := .seq acc c', slots := #[] } →
      ItemsOf (fun i v => items[items.size - 1 - i]? = some v) acc items.size → Q (.ref s.heap.objs.size) { s with heap := h', toks := tk }) :
    wpAny (model prog w) A (call (.type "list") [.ref it]) Q E s := by
  refine callType_codes (Q₁ := fun obj t => obj = .ref s.heap.objs.size ∧ t = { s with heap := s.heap.push { cls := .type "list", data := .seq #[] } }) PySem.F.called_list (PySem.F.typeCall_list_1 _) PySem.F.entry_list_init
    (code_list_new _ ⟨rfl, rfl⟩) fun obj t ht => ?_
  obtain ⟨rfl, rfl⟩ := ht
  obtain ⟨oi, hoi, _⟩ := id hit
  obtain ⟨ol, hol, _⟩ := id hl
  have hS : (s.heap.push { cls := .type "list", data := .seq #[] }).get? s.heap.objs.size = some { cls := .type "list", data := .seq #[] } := Heap.get?_push_size _ rfl
  have hSi : s.heap.objs.size ≠ it := Nat.ne_of_gt (Heap.lt_size hoi)
  have hSl : s.heap.objs.size ≠ l := Nat.ne_of_gt (Heap.lt_size hol)
  refine ⟨⟨_, hS, rfl⟩, PySem.F.args_list_init_2 _ _, rev_init (A := A.in1) hh (hit.at fun o e => Heap.get?_push_of_some _ e) (hl.push _) hne hSi hSl hn hS fun h' tk acc c' hk hS' hacc => ?_⟩
  exact ⟨rfl, hQ h' tk acc c' (fun b o hb e => hk b o (Nat.ne_of_lt (Heap.lt_size e)) hb (Heap.get?_push_of_some _ e)) hS' hacc⟩
end
/-- list(reversed(x)), x a list: a new list -/
def tListRev (K : PySem.W.Frag) (te : TE) : TE := fun σ H Q => te σ H fun v H1 => ∃ (a : Addr) (xs : List V), v = .ref a ∧ SqL K H1 a xs ∧ ∀ q, H1 q = none → Q (.ref q) (upd H1 q (.lst xs.reverse))
section
variable {X : Cx}
theorem pe_listRev {e : Expr} {te : TE} {p p2 pos pos2 : Pos} (hc : X.calm = true) (hg : Gl X "list") (hm : X.mg "list" = none) (hg2 : Gl X "reversed") (hm2 : X.mg "reversed" = none) (he : PE X e te)
    (hs : starEach [e] X.env = (false, eval e X.env) :: starEach [] X.env := by rfl)
    (hs2 : starEach [.Call (.Name "reversed" p2) [e] [] pos2] X.env = (false, eval (.Call (.Name "reversed" p2) [e] [] pos2) X.env) :: starEach [] X.env := by rfl) :
    PE X (.Call (.Name "list" p) [.Call (.Name "reversed" p2) [e] [] pos2] [] pos) (tListRev X.K te) := by
  refine ⟨fun pins s σ H Q I h => ?_⟩
  refine Call_ (ld_blt I hg hm boot_list (PyProof.Rows.callWith_type1 (args_cons (Call_ (ld_blt I hg2 hm2 PyProof.Rows.boot_reversed (PyProof.Rows.callWith_type1 (args_cons (thn (he.run pins s σ H _ I h) fun u s1 ⟨v, H1, I1, r1, q1⟩ => args_nil ?_) hs) hs rfl))) hs2) hs2 rfl))
  obtain ⟨a, xs, rfl, hq, q⟩ := q1
  obtain rfl : u = Value.ref a := r1
  obtain ⟨its, rv, pl, hz⟩ := I1.list hq
  refine call_reversed_list pl.isList (args_nil ?_)
  have hl := pl.isList
  obtain ⟨ol, hol, _⟩ := id hl
  have hne : a ≠ s1.heap.objs.size := Nat.ne_of_lt (Heap.lt_size hol)
  have hn : its.toArray.size ≤ sizeLine := by rw [List.size_toArray, ← rv.length]; exact hz
  have eS : (s1.heap.push (revObj a ((its.toArray.size : Int) - 1))).objs.size = s1.heap.objs.size + 1 := size_push' _ _
  refine call_list_rev (s := { s1 with heap := s1.heap.push (revObj a ((its.toArray.size : Int) - 1)) }) (I1.ok.hd hc) ⟨_, Heap.get?_push_size _ rfl, rfl, rfl⟩ (hl.push _) hne hn fun h' tk acc c' hk hS' hi => ?_
  have k : ∀ b o, s1.heap.get? b = some o → h'.get? b = some o := fun b o e => hk b o (Nat.ne_of_lt (Heap.lt_size e)) (Heap.get?_push_of_some _ e)
  have hp : s1.heap.objs.size ≤ (s1.heap.push (revObj a ((its.toArray.size : Int) - 1))).objs.size := by rw [eS]; exact Nat.le_succ _
  have I3 : Inv X pins σ (upd H1 (s1.heap.push (revObj a ((its.toArray.size : Int) - 1))).objs.size (.lst xs.reverse)) { s1 with heap := h', toks := tk } :=
    I1.laid (t' := tk) k hp (show ObjOk X.prog X.w _ _ _ (.lst xs.reverse) from ⟨by rw [List.length_reverse]; exact hz, acc.toList, c', RT.vals_rev rv hi, by rw [Array.toArray_toList]; exact hS'⟩)
  exact ⟨.ref _, _, I3, rfl, q _ (I1.hok.fresh hp)⟩
end
end TC

/-! the order of nested data -/
namespace TC
open PySem PySem.Spec PyProof.Rows L2
abbrev ND := NestedKey
/-! ### texts -/
def ltS (a b : Str) : Bool := decide (a.cps.toList < b.cps.toList)
theorem str_ext {a b : Str} (h : a.cps.toList = b.cps.toList) : a = b := by
  cases a with
  | mk x =>
    cases b with
    | mk y =>
      have e : x = y := Array.toList_inj.mp h
      rw [e]
theorem ltS_irr (a : Str) : ltS a a = false := decide_eq_false (List.lt_irrefl _)
theorem ltS_tr {a b c : Str} (h1 : ltS a b = true) (h2 : ltS b c = true) : ltS a c = true :=
  decide_eq_true (List.lt_trans (of_decide_eq_true h1) (of_decide_eq_true h2))
theorem lst_tri : ∀ a b : List Nat, a < b ∨ a = b ∨ b < a
  | [], [] => .inr (.inl rfl)
  | [], _ :: _ => .inl (List.nil_lt_cons _ _)
  | _ :: _, [] => .inr (.inr (List.nil_lt_cons _ _))
  | x :: xs, y :: ys => by
    rcases Nat.lt_trichotomy x y with h | h | h
    · exact .inl (List.cons_lt_cons_iff.mpr (.inl h))
    · subst h
      rcases lst_tri xs ys with q | q | q
      · exact .inl (List.cons_lt_cons_iff.mpr (.inr ⟨rfl, q⟩))
      · exact .inr (.inl (by rw [q]))
      · exact .inr (.inr (List.cons_lt_cons_iff.mpr (.inr ⟨rfl, q⟩)))
    · exact .inr (.inr (List.cons_lt_cons_iff.mpr (.inl h)))
theorem ltS_tri (a b : Str) : ltS a b = true ∨ a = b ∨ ltS b a = true := by
  rcases lst_tri a.cps.toList b.cps.toList with h | h | h
  · exact .inl (decide_eq_true h)
  · exact .inr (.inl (str_ext h))
  · exact .inr (.inr (decide_eq_true h))
/-! ### nested data -/
mutual
def ltD : ND → ND → Bool
  | .none, .none => false
  | .none, .num _ => true
  | .none, .text _ => true
  | .none, .tup _ => true
  | .num _, .none => false
  | .num a, .num b => decide (a < b)
  | .num _, .text _ => true
  | .num _, .tup _ => true
  | .text _, .none => false
  | .text _, .num _ => false
  | .text a, .text b => ltS a b
  | .text _, .tup _ => true
  | .tup _, .none => false
  | .tup _, .num _ => false
  | .tup _, .text _ => false
  | .tup xs, .tup ys => ltL xs ys
def ltL : List ND → List ND → Bool
  | [], [] => false
  | [], _ :: _ => true
  | _ :: _, [] => false
  | x :: xs, y :: ys => if NestedKey.beq x y = true then ltL xs ys else ltD x y
end
mutual
theorem ltD_irr : ∀ x : ND, ltD x x = false
  | .none => rfl
  | .num a => by rw [ltD]; exact decide_eq_false (Int.lt_irrefl _)
  | .text a => by rw [ltD]; exact ltS_irr a
  | .tup xs => by rw [ltD]; exact ltL_irr xs
theorem ltL_irr : ∀ x : List ND, ltL x x = false
  | [] => rfl
  | x :: xs => by rw [ltL, NestedKey.beq_self, if_pos rfl]; exact ltL_irr xs
end
theorem beq_no {x y : ND} (h : x ≠ y) : NestedKey.beq x y = false := by
  cases e : NestedKey.beq x y with
  | false => rfl
  | true => exact absurd (NestedKey.eq_of_beq x y e) h
theorem ltL_same {x : ND} {xs ys : List ND} : ltL (x :: xs) (x :: ys) = ltL xs ys := by rw [ltL, NestedKey.beq_self, if_pos rfl]
theorem ltL_ne {x y : ND} {xs ys : List ND} (h : x ≠ y) : ltL (x :: xs) (y :: ys) = ltD x y := by rw [ltL, beq_no h, if_neg Bool.false_ne_true]
mutual
theorem ltD_tri : ∀ x y : ND, ltD x y = true ∨ x = y ∨ ltD y x = true
  | .none, .none => .inr (.inl rfl)
  | .none, .num _ => .inl rfl
  | .none, .text _ => .inl rfl
  | .none, .tup _ => .inl rfl
  | .num _, .none => .inr (.inr rfl)
  | .num a, .num b => by
    rcases Int.lt_trichotomy a b with h | h | h
    · exact .inl (by rw [ltD]; exact decide_eq_true h)
    · exact .inr (.inl (by rw [h]))
    · exact .inr (.inr (by rw [ltD]; exact decide_eq_true h))
  | .num _, .text _ => .inl rfl
  | .num _, .tup _ => .inl rfl
  | .text _, .none => .inr (.inr rfl)
  | .text _, .num _ => .inr (.inr rfl)
  | .text a, .text b => by
    rcases ltS_tri a b with h | h | h
    · exact .inl (by rw [ltD]; exact h)
    · exact .inr (.inl (by rw [h]))
    · exact .inr (.inr (by rw [ltD]; exact h))
  | .text _, .tup _ => .inl rfl
  | .tup _, .none => .inr (.inr rfl)
  | .tup _, .num _ => .inr (.inr rfl)
  | .tup _, .text _ => .inr (.inr rfl)
  | .tup xs, .tup ys => by
    rcases ltL_tri xs ys with h | h | h
    · exact .inl (by rw [ltD]; exact h)
    · exact .inr (.inl (by rw [h]))
    · exact .inr (.inr (by rw [ltD]; exact h))
theorem ltL_tri : ∀ x y : List ND, ltL x y = true ∨ x = y ∨ ltL y x = true
  | [], [] => .inr (.inl rfl)
  | [], _ :: _ => .inl rfl
  | _ :: _, [] => .inr (.inr rfl)
  | x :: xs, y :: ys => by
    rcases ltD_tri x y with h | h | h
    · have ne : x ≠ y := fun e => by rw [e, ltD_irr] at h; cases h
      exact .inl (by rw [ltL_ne ne]; exact h)
    · subst h
      rw [ltL_same, ltL_same]
      rcases ltL_tri xs ys with q | q | q
      · exact .inl q
      · exact .inr (.inl (by rw [q]))
      · exact .inr (.inr q)
    · have ne : y ≠ x := fun e => by rw [e, ltD_irr] at h; cases h
      exact .inr (.inr (by rw [ltL_ne ne]; exact h))
end
mutual
theorem ltD_tr : ∀ x y z : ND, ltD x y = true → ltD y z = true → ltD x z = true
  | .none, .none, _, h, _ => by cases h
  | .none, .num _, .none, _, h => by cases h
  | .none, .num _, .num _, _, _ => rfl
  | .none, .num _, .text _, _, _ => rfl
  | .none, .num _, .tup _, _, _ => rfl
  | .none, .text _, .none, _, h => by cases h
  | .none, .text _, .num _, _, _ => rfl
  | .none, .text _, .text _, _, _ => rfl
  | .none, .text _, .tup _, _, _ => rfl
  | .none, .tup _, .none, _, h => by cases h
  | .none, .tup _, .num _, _, _ => rfl
  | .none, .tup _, .text _, _, _ => rfl
  | .none, .tup _, .tup _, _, _ => rfl
  | .num _, .none, _, h, _ => by cases h
  | .num _, .num _, .none, _, h => by cases h
  | .num a, .num b, .num c, h1, h2 => by
    rw [ltD] at h1 h2 ⊢
    exact decide_eq_true (Int.lt_trans (of_decide_eq_true h1) (of_decide_eq_true h2))
  | .num _, .num _, .text _, _, _ => rfl
  | .num _, .num _, .tup _, _, _ => rfl
  | .num _, .text _, .none, _, h => by cases h
  | .num _, .text _, .num _, _, h => by cases h
  | .num _, .text _, .text _, _, _ => rfl
  | .num _, .text _, .tup _, _, _ => rfl
  | .num _, .tup _, .none, _, h => by cases h
  | .num _, .tup _, .num _, _, h => by cases h
  | .num _, .tup _, .text _, _, h => by cases h
  | .num _, .tup _, .tup _, _, _ => rfl
  | .text _, .none, _, h, _ => by cases h
  | .text _, .num _, _, h, _ => by cases h
  | .text _, .text _, .none, _, h => by cases h
  | .text _, .text _, .num _, _, h => by cases h
  | .text a, .text b, .text c, h1, h2 => by
    rw [ltD] at h1 h2 ⊢
    exact ltS_tr h1 h2
  | .text _, .text _, .tup _, _, _ => rfl
  | .text _, .tup _, .none, _, h => by cases h
  | .text _, .tup _, .num _, _, h => by cases h
  | .text _, .tup _, .text _, _, h => by cases h
  | .text _, .tup _, .tup _, _, _ => rfl
  | .tup _, .none, _, h, _ => by cases h
  | .tup _, .num _, _, h, _ => by cases h
  | .tup _, .text _, _, h, _ => by cases h
  | .tup _, .tup _, .none, _, h => by cases h
  | .tup _, .tup _, .num _, _, h => by cases h
  | .tup _, .tup _, .text _, _, h => by cases h
  | .tup xs, .tup ys, .tup zs, h1, h2 => by
    rw [ltD] at h1 h2 ⊢
    exact ltL_tr xs ys zs h1 h2
theorem ltL_tr : ∀ x y z : List ND, ltL x y = true → ltL y z = true → ltL x z = true
  | [], [], _, h, _ => by cases h
  | [], _ :: _, [], _, h => by cases h
  | [], _ :: _, _ :: _, _, _ => rfl
  | _ :: _, [], _, h, _ => by cases h
  | _ :: _, _ :: _, [], _, h => by cases h
  | x :: xs, y :: ys, z :: zs, h1, h2 => by
    by_cases e1 : x = y
    · subst e1
      rw [ltL_same] at h1
      by_cases e2 : x = z
      · subst e2
        rw [ltL_same] at h2 ⊢
        exact ltL_tr xs ys zs h1 h2
      · rw [ltL_ne e2] at h2 ⊢
        exact h2
    · rw [ltL_ne e1] at h1
      by_cases e2 : y = z
      · subst e2
        rw [ltL_ne e1]
        exact h1
      · rw [ltL_ne e2] at h2
        have h3 := ltD_tr x y z h1 h2
        have ne : x ≠ z := fun e => by rw [e, ltD_irr] at h3; cases h3
        rw [ltL_ne ne]
        exact h3
end
theorem ltD_asym {x y : ND} (h : ltD x y = true) : ltD y x = false := by
  cases e : ltD y x with
  | false => rfl
  | true =>
    have q := ltD_tr x y x h e
    rw [ltD_irr] at q
    cases q
theorem ltD_eq {x y : ND} (h1 : ltD x y = false) (h2 : ltD y x = false) : x = y := by
  rcases ltD_tri x y with h | h | h
  · rw [h] at h1; cases h1
  · exact h
  · rw [h] at h2; cases h2
theorem swoD : SrtO.Swo ltD := ⟨fun _ _ => ltD_asym, fun x y z h1 h2 => by
  cases e : ltD z x with
  | false => rfl
  | true =>
    rcases ltD_tri x y with h | h | h
    · have q := ltD_tr z x y e h
      rw [h2] at q
      cases q
    · subst h
      rw [h2] at e
      cases e
    · rw [h1] at h
      cases h⟩
/-! ### data of which < may be asked -/
mutual
def okD : ND → ND → Bool
  | .num _, .num _ => false
  | .text _, .text _ => true
  | .tup xs, .tup ys => okL xs ys
  | .none, _ => false
  | .num _, .none => false
  | .num _, .text _ => false
  | .num _, .tup _ => false
  | .text _, .none => false
  | .text _, .num _ => false
  | .text _, .tup _ => false
  | .tup _, .none => false
  | .tup _, .num _ => false
  | .tup _, .text _ => false
def okL : List ND → List ND → Bool
  | [], _ => true
  | _ :: _, [] => true
  | x :: xs, y :: ys => if NestedKey.beq x y = true then okL xs ys else okD x y
end
theorem okL_ne {x y : ND} {xs ys : List ND} (h : x ≠ y) : okL (x :: xs) (y :: ys) = okD x y := by rw [okL, beq_no h, if_neg Bool.false_ne_true]
theorem okL_same {x : ND} {xs ys : List ND} : okL (x :: xs) (x :: ys) = okL xs ys := by rw [okL, NestedKey.beq_self, if_pos rfl]
abbrev eAt (xs ys : List ND) (j : Nat) : Bool := NestedKey.beq (xs.getD j .none) (ys.getD j .none)
abbrev rAt (xs ys : List ND) (j : Nat) : Bool := ltD (xs.getD j .none) (ys.getD j .none)
theorem firstLt_ltL : ∀ xs ys : List ND, SeqAt.firstLt (eAt xs ys) (rAt xs ys) (decide (xs.length < ys.length)) (List.range (min xs.length ys.length)) = ltL xs ys
  | [], [] => rfl
  | [], _ :: _ => by simp [SeqAt.firstLt, ltL]
  | _ :: _, [] => by simp [SeqAt.firstLt, ltL]
  | x :: xs, y :: ys => by
    have ih := firstLt_ltL xs ys
    have e1 : min (x :: xs).length (y :: ys).length = min xs.length ys.length + 1 := by simp only [List.length_cons]; omega
    have e2 : decide ((x :: xs).length < (y :: ys).length) = decide (xs.length < ys.length) := by
      simp only [List.length_cons]
      exact decide_eq_decide.mpr (by omega)
    have sh : ∀ (l : List Nat), SeqAt.firstLt (eAt (x :: xs) (y :: ys)) (rAt (x :: xs) (y :: ys)) (decide (xs.length < ys.length)) (l.map (· + 1)) = SeqAt.firstLt (eAt xs ys) (rAt xs ys) (decide (xs.length < ys.length)) l := by
      intro l
      induction l with
      | nil => rfl
      | cons j l ih =>
        rw [List.map_cons]
        show (if eAt xs ys j = true then SeqAt.firstLt (eAt (x :: xs) (y :: ys)) (rAt (x :: xs) (y :: ys)) (decide (xs.length < ys.length)) (l.map (· + 1)) else rAt xs ys j) = (if eAt xs ys j = true then SeqAt.firstLt (eAt xs ys) (rAt xs ys) (decide (xs.length < ys.length)) l else rAt xs ys j)
        rw [ih]
    rw [e1, e2, List.range_succ_eq_map]
    show (if NestedKey.beq x y = true then SeqAt.firstLt (eAt (x :: xs) (y :: ys)) (rAt (x :: xs) (y :: ys)) (decide (xs.length < ys.length)) ((List.range (min xs.length ys.length)).map Nat.succ) else ltD x y) = ltL (x :: xs) (y :: ys)
    have sh' := sh (List.range (min xs.length ys.length))
    rw [ltL, show ((List.range (min xs.length ys.length)).map Nat.succ) = (List.range (min xs.length ys.length)).map (· + 1) from rfl, sh', ih]
/-- what is asked at the places ahead of the first that differs -/
theorem okL_at : ∀ {xs ys : List ND} {j : Nat}, okL xs ys = true → j < xs.length → j < ys.length → eAt xs ys j = false → (∀ i, i < j → eAt xs ys i = true) → okD (xs.getD j .none) (ys.getD j .none) = true
  | [], _, _, _, h1, _, _, _ => absurd h1 (Nat.not_lt_zero _)
  | _ :: _, [], _, _, _, h2, _, _ => absurd h2 (Nat.not_lt_zero _)
  | x :: xs, y :: ys, 0, h, _, _, he, _ => by
    have he' : NestedKey.beq x y = false := he
    rw [okL, he', if_neg Bool.false_ne_true] at h
    exact h
  | x :: xs, y :: ys, j + 1, h, h1, h2, he, hb => by
    have h0 : NestedKey.beq x y = true := hb 0 (Nat.succ_pos _)
    rw [okL, h0, if_pos rfl] at h
    exact okL_at (xs := xs) (ys := ys) (j := j) h (Nat.lt_of_succ_lt_succ h1) (Nat.lt_of_succ_lt_succ h2) he fun i hi => hb (i + 1) (Nat.succ_lt_succ hi)
end TC

/-! < of tuples, asked only where the first difference is; sorting nested data -/
namespace TC
open PySem PySem.Spec PyProof.Rows L2 SeqAt
open AutoSeq1 (wpAny_loadPart')
open MeetsSeq MeetsSeq2 MeetsSeq3 SeqRoads2
section
theorem tup_lt_first (l b : Addr) (items items2 : Array Value) (n n2 : Nat) (dd dd2 : Option Addr) (sl sl2 : Array (Option Value)) (e r : Nat → Bool) :
    Meets (Builtin.«tuple.__lt__» ⟨[.ref l, .ref b], []⟩)
      (fun A R s => s.heap.get? l = some { cls := .type "tuple", dict := dd, data := .seq items n, slots := sl } ∧ s.heap.get? b = some { cls := .type "tuple", dict := dd2, data := .seq items2 n2, slots := sl2 } ∧
        (∀ j (h1 : j < items.size) (h2 : j < items2.size), EqAt A.in1 s items[j] items2[j] (e j)) ∧ (∀ j (h1 : j < items.size) (h2 : j < items2.size), (∀ i, i < j → e i = true) → e j = false → RcLt A.in1 s items[j] items2[j] (r j)) ∧
        R (.ok (.ret (.bool (firstLt e r (decide (items.size < items2.size)) (List.range (min items.size items2.size)))))) s) :=
  .of_wp fun prog w A R s h => by
    obtain ⟨hp, g, d, tk, os⟩ := s
    obtain ⟨hl, hb, he, hr, h⟩ := h
    have f2 := AutoSeq1.sub_tuple_tuple
    have hZ : (items.toList.zip items2.toList).length = min items.size items2.size := by simp
    wp_walk using wpAny_loadPart' hl, wpAny_loadPart' hb, wpAny_forIn_list _ (fun rest b s' => b.1 = none ∧ s' = ⟨hp, g, d, tk, os⟩ ∧ ∃ i, (∀ q, q < i → e q = true) ∧ rest = (items.toList.zip items2.toList).drop i ∧
      R (.ok (.ret (.bool (firstLt e r (decide (items.size < items2.size)) ((List.range (min items.size items2.size)).drop i))))) ⟨hp, g, d, tk, os⟩) _
    case turn =>
      rintro ⟨y, x⟩ rest b s' ⟨hb', rfl, i, hi, hz, hR⟩
      have hlt : i < (items.toList.zip items2.toList).length := by
        rcases Nat.lt_or_ge i (items.toList.zip items2.toList).length with h' | h'
        · exact h'
        · rw [List.drop_of_length_le h'] at hz
          cases hz
      have hm : i < min items.size items2.size := hZ ▸ hlt
      have h1 : i < items.size := Nat.lt_of_lt_of_le hm (Nat.min_le_left _ _)
      have h2 : i < items2.size := Nat.lt_of_lt_of_le hm (Nat.min_le_right _ _)
      rw [List.drop_eq_getElem_cons hlt] at hz
      injection hz with hyx hrest
      have hy : y = items[i] := by
        have q := congrArg Prod.fst hyx
        simpa using q
      have hx : x = items2[i] := by
        have q := congrArg Prod.snd hyx
        simpa using q
      subst hy hx
      have hd : (List.range (min items.size items2.size)).drop i = i :: (List.range (min items.size items2.size)).drop (i + 1) := by simp [List.drop_eq_getElem_cons, hm]
      rw [hd] at hR
      refine wpAny_bind (he i h1 h2 prog w _ _ ?_)
      cases hy : e i with
      | true =>
        rw [firstLt_yes hy] at hR
        wp_walk
        refine ⟨rfl, rfl, i + 1, fun q hq => ?_, hrest, hR⟩
        rcases Nat.lt_or_ge q i with z | z
        · exact hi q z
        · have ez : q = i := by omega
          rw [ez]
          exact hy
      | false =>
        rw [firstLt_no hy] at hR
        rw [if_pos (show (!false) = true from rfl)]
        refine wpAny_bind (wpAny_rule (wpAny_bind (hr i h1 h2 hi hy prog w _ _ ?_)))
        wp_walk
        exact ⟨_, rfl, hR⟩
    case fin =>
      rintro ⟨b1, b2⟩ s' ⟨hb', rfl, i, hi, hz, hR⟩
      simp only at hb'
      subst hb'
      have hge : min items.size items2.size ≤ i := by
        rcases Nat.lt_or_ge i (items.toList.zip items2.toList).length with h' | h'
        · rw [List.drop_eq_getElem_cons h'] at hz
          cases hz
        · exact hZ ▸ h'
      rw [List.drop_of_length_le (by simpa using hge)] at hR
      wp_walk
      exact ⟨_, rfl, by simpa [Builtin.Tuple.tupleCompareSizes, firstLt] using hR⟩
    case h =>
      exact ⟨rfl, rfl, 0, fun q hq => absurd hq (Nat.not_lt_zero _), rfl, by simpa using h⟩
theorem rcLt_tup {A : Around} {s : Shared} {l b : Addr} {items items2 : Array Value} {e r : Nat → Bool} (hl : s.heap.IsTuple l items) (hb : s.heap.IsTuple b items2) (hu : A.units < cLine)
    (he : ∀ j (h1 : j < items.size) (h2 : j < items2.size), EqAt A.in1 s items[j] items2[j] (e j)) (hr : ∀ j (h1 : j < items.size) (h2 : j < items2.size), (∀ i, i < j → e i = true) → e j = false → RcLt A.in1 s items[j] items2[j] (r j)) :
    RcLt A s (.ref l) (.ref b) (firstLt e r (decide (items.size < items2.size)) (List.range (min items.size items2.size))) := fun prog w E Q h => by
  obtain ⟨⟨cls, dd, data, sl⟩, ho, hc, n, hd⟩ := id hl
  obtain ⟨⟨cls2, dd2, data2, sl2⟩, ho2, hc2, n2, hd2⟩ := id hb
  simp only at hc hd hc2 hd2
  subst hc hd hc2 hd2
  have nn : Value.bool (firstLt e r (decide (items.size < items2.size)) (List.range (min items.size items2.size))) ≠ Value.notImplemented := fun x => nomatch x
  exact richCompare_meets_room (op := .Lt) ⟨_, ho, rfl⟩ ⟨_, ho2, rfl⟩ F.slot_tuple_lt F.entry_tuple_lt (F.args_tuple_lt_2 _ _) (tup_lt_first l b items items2 n n2 dd dd2 sl sl2 e r)
    ⟨ho, ho2, he, hr, nn, h⟩ hu
end
mutual
theorem rcLt_nd : ∀ (x y : ND) (A : Around) (s : Shared) (a b : Value), NestedIs s.heap x a → NestedIs s.heap y b → okD x y = true → A.units + min x.depth y.depth < cLine → RcLt A s a b (ltD x y)
  | .none, _, _, _, _, _, _, _, h, _ => by simp [okD] at h
  | .num _, .num _, _, _, _, _, _, _, h, _ => by simp [okD] at h
  | .num _, .none, _, _, _, _, _, _, h, _ => by simp [okD] at h
  | .num _, .text _, _, _, _, _, _, _, h, _ => by simp [okD] at h
  | .num _, .tup _, _, _, _, _, _, _, h, _ => by simp [okD] at h
  | .text x, .text y, A, s, _, _, ra, rb, _, _ => by
    cases ra
    cases rb
    intro prog w E Q h
    exact P.lt_str h
  | .text _, .none, _, _, _, _, _, _, h, _ => by simp [okD] at h
  | .text _, .num _, _, _, _, _, _, _, h, _ => by simp [okD] at h
  | .text _, .tup _, _, _, _, _, _, _, h, _ => by simp [okD] at h
  | .tup _, .none, _, _, _, _, _, _, h, _ => by simp [okD] at h
  | .tup _, .num _, _, _, _, _, _, _, h, _ => by simp [okD] at h
  | .tup _, .text _, _, _, _, _, _, _, h, _ => by simp [okD] at h
  | .tup xs, .tup ys, A, s, _, _, ra, rb, h, hu => by
    cases ra with
    | @tup l o vs n _ h1 h2 h3 h4 =>
      cases rb with
      | @tup l' o' vs' n' _ k1 k2 k3 k4 =>
        have n1 : vs.size = xs.length := by simpa using NestedAll.length _ _ h4
        have n2 : vs'.size = ys.length := by simpa using NestedAll.length _ _ k4
        rw [ltD, ← firstLt_ltL xs ys, ← n1, ← n2]
        refine rcLt_tup ⟨_, h1, h2, _, h3⟩ ⟨_, k1, k2, _, k3⟩ (room_here hu) (fun j j1 j2 => ?_) fun j j1 j2 hb hj => ?_
        · have q := eqAt_keys xs ys A.in1 s vs.toList vs'.toList h4 k4 (room_in hu) j (by simpa using j1) (by simpa using j2)
          simpa using q
        · have q := rcLt_nds xs ys A.in1 s vs.toList vs'.toList h4 k4 (room_in hu) j (by simpa using j1) (by simpa using j2) (okL_at (by simpa [okD] using h) (by omega) (by omega) hj hb)
          simpa using q
theorem rcLt_nds : ∀ (xs ys : List ND) (A : Around) (s : Shared) (vs ws : List Value), NestedAll s.heap xs vs → NestedAll s.heap ys ws →
    A.units + min (NestedKey.depthAll xs) (NestedKey.depthAll ys) < cLine → ∀ j (h1 : j < vs.length) (h2 : j < ws.length), okD (xs.getD j .none) (ys.getD j .none) = true → RcLt A s vs[j] ws[j] (rAt xs ys j)
  | [], _, _, _, _, _, ra, _, _, j, h1, _, _ => by cases ra; exact absurd h1 (Nat.not_lt_zero _)
  | _ :: _, [], _, _, _, _, _, rb, _, j, _, h2, _ => by cases rb; exact absurd h2 (Nat.not_lt_zero _)
  | x :: xs, y :: ys, A, s, _, _, ra, rb, hu, j, h1, h2, hj => by
    cases ra with
    | cons r rs =>
      cases rb with
      | cons r' rs' =>
        cases j with
        | zero => exact rcLt_nd x y A s _ _ r r' hj (room_head hu)
        | succ j => exact rcLt_nds xs ys A s _ _ rs rs' (room_tail hu) j (Nat.lt_of_succ_lt_succ h1) (Nat.lt_of_succ_lt_succ h2) hj
end
end TC

namespace TC
open PySem PySem.Spec PyProof.Rows L2 SeqAt PySem.W
section
variable {prog : Program} {w : World} {A : Around} {E : Value → Shared → Prop} {s : Shared}
def Txt1 (xs : List ND) : Prop := ∀ x, xs.head? = some x → ∃ t, x = NestedKey.text t
theorem katlex_nd {b : Bool} {Q : Bool → Shared → Prop} : ∀ (xs ys : List ND) (vs ws : List Value) (i : Nat), NestedAll s.heap xs vs → NestedAll s.heap ys ws → okL xs ys = true →
    A.units + min (NestedKey.depthAll xs) (NestedKey.depthAll ys) < cLine → (i = 0 → b = true → Txt1 xs ∧ Txt1 ys) → Q (ltL xs ys) s → KatLex prog w A b (decide (xs.length < ys.length)) Q (vs.zip ws) i s
  | [], [], _, _, i, ra, rb, _, _, _, h => by
    cases ra
    cases rb
    exact h
  | [], _ :: _, _, _, i, ra, rb, _, _, _, h => by
    cases ra
    cases rb
    exact kat_nil (by simpa [ltL] using h)
  | _ :: _, [], _, _, i, ra, rb, _, _, _, h => by
    cases ra
    cases rb
    exact kat_nil (by simpa [ltL] using h)
  | x :: xs, y :: ys, _, _, i, ra, rb, ok, hu, hf, h => by
    cases ra with
    | @cons _ v _ vs r rs =>
      cases rb with
      | @cons _ v' _ vs' r' rs' =>
        show KatLex prog w A b _ Q ((v, v') :: vs.zip vs') i s
        refine kat_cons (eqAt_key x y A s v v' r r' (room_head hu) prog w _ _ ?_)
        have e2 : decide ((x :: xs).length < (y :: ys).length) = decide (xs.length < ys.length) := by
          simp only [List.length_cons]
          exact decide_eq_decide.mpr (by omega)
        rw [e2]
        refine kat_go (fun e => ?_) (fun e => ?_)
        · rw [okL, e, if_pos rfl] at ok
          rw [ltL, e, if_pos rfl] at h
          exact kat_yes (katlex_nd xs ys vs vs' (i + 1) rs rs' ok (room_tail hu) (fun z => absurd z (Nat.succ_ne_zero i)) h)
        · rw [okL, e, if_neg Bool.false_ne_true] at ok
          rw [ltL, e, if_neg Bool.false_ne_true] at h
          refine kat_no ?_
          by_cases hb : i = 0 ∧ b = true
          · obtain ⟨i0, b1⟩ := hb
            obtain ⟨f1, f2⟩ := hf i0 b1
            obtain ⟨t, rfl⟩ := f1 x rfl
            obtain ⟨u, rfl⟩ := f2 y rfl
            cases r
            cases r'
            have eb : (b && i == 0) = true := by rw [b1, i0]; rfl
            rw [eb]
            exact oneLt_str h
          · have eb : (b && i == 0) = false := by
              cases b with
              | false => rfl
              | true =>
                have hi : ¬ i = 0 := fun z => hb ⟨z, rfl⟩
                simp [hi]
            rw [eb]
            exact kat_one _ _ (rcLt_nd x y A s v v' r r' ok (room_head hu) prog w _ _ h)
mutual
theorem is_keepT {h h' : Heap} (hk : ∀ a o, h.get? a = some o → o.cls = .type "tuple" → h'.get? a = some o) : ∀ (x : ND) (v : Value), NestedIs h x v → NestedIs h' x v
  | .none, _, hx => by cases hx; exact .none
  | .num i, _, hx => by
    cases hx with
    | bool e => exact .bool e
    | int _ t => exact .int _ t
  | .text x, _, hx => by cases hx; exact .text _ _
  | .tup ks, _, hx => by
    cases hx with
    | tup h1 h2 h3 h4 => exact .tup (hk _ _ h1 h2) h2 h3 (all_keepT hk ks _ h4)
theorem all_keepT {h h' : Heap} (hk : ∀ a o, h.get? a = some o → o.cls = .type "tuple" → h'.get? a = some o) : ∀ (xs : List ND) (vs : List Value), NestedAll h xs vs → NestedAll h' xs vs
  | [], _, hx => by cases hx; exact .nil
  | x :: xs, _, hx => by
    cases hx with
    | cons h1 h2 => exact .cons (is_keepT hk x _ h1) (all_keepT hk xs _ h2)
end
/-! ### sorting -/
/-- what the values are, as data (any choice elsewhere) -/
noncomputable def datOf (h : Heap) (v : Value) : ND := by
  classical
  exact if q : ∃ d, NestedIs h d v then q.choose else .none
theorem datOf_eq {h : Heap} {v : Value} {d : ND} (r : NestedIs h d v) : datOf h v = d := by
  unfold datOf
  have q : ∃ d, NestedIs h d v := ⟨d, r⟩
  rw [dif_pos q]
  exact NestedIs.inj _ _ v q.choose_spec r
theorem swo_dat (h : Heap) : SrtO.Swo fun v u => ltD (datOf h v) (datOf h u) :=
  ⟨fun x y q => swoD.asym _ _ q, fun x y z a b => swoD.tr _ _ _ a b⟩
/-- lists of tuples that may be sorted: any two may be compared, the first items of one kind -/
structure Srtb (ds : List ND) : Prop where
  tup : ∀ d ∈ ds, ∃ x r, d = NestedKey.tup (x :: r)
  ok : ∀ d ∈ ds, ∀ e ∈ ds, d ≠ e → okD d e = true
  dep : ∀ d ∈ ds, d.depth ≤ 40
  fst : (∀ d ∈ ds, ∃ t r, d = NestedKey.tup (.text t :: r)) ∨ (∀ d ∈ ds, ∃ t r, d = NestedKey.tup (.tup t :: r))
theorem okD_tup {xs ys : List ND} : okD (.tup xs) (.tup ys) = okL xs ys := by rw [okD]
theorem okL_refl : ∀ xs : List ND, okL xs xs = true
  | [] => rfl
  | x :: xs => by rw [okL_same]; exact okL_refl xs
theorem Srtb.okL {ds : List ND} (S : Srtb ds) {xs ys : List ND} (h1 : NestedKey.tup xs ∈ ds) (h2 : NestedKey.tup ys ∈ ds) : okL xs ys = true := by
  by_cases e : xs = ys
  · rw [e]; exact okL_refl ys
  · have q := S.ok _ h1 _ h2 (fun z => e (by injection z))
    rw [okD_tup] at q
    exact q
theorem cmp_nd {vs : List Value} {ds : List ND} {b : Bool} (S : Srtb ds) (hv : ∀ v ∈ vs, ∃ d ∈ ds, NestedIs s.heap d v) (hu : A.units + 41 < cLine) (hb : b = true → ∀ d ∈ ds, ∃ t r, d = NestedKey.tup (.text t :: r)) :
    SrtO.Cmp prog w A s (tuples' b) (fun p => p.1 ∈ vs) (SrtO.lt2 fun v u => ltD (datOf s.heap v) (datOf s.heap u)) := by
  intro p q hm hm'
  obtain ⟨d, hd, rd⟩ := hv _ hm
  obtain ⟨e, he, re⟩ := hv _ hm'
  obtain ⟨x, xs, rfl⟩ := S.tup d hd
  obtain ⟨y, ys, rfl⟩ := S.tup e he
  have hd8 := S.dep _ hd
  have ok := S.okL hd he
  show wpAny (model prog w) A (keyLt' (tuples' b) p.1 q.1) (fun r s' => s' = s ∧ r = ltD (datOf s.heap p.1) (datOf s.heap q.1)) (fun _ _ => False) s
  rw [datOf_eq rd, datOf_eq re]
  generalize p.1 = v at rd
  generalize q.1 = u at re
  cases rd with
  | @tup a o va n _ h1 h2 h3 h4 =>
    cases re with
    | @tup a' o' va' n' _ k1 k2 k3 k4 =>
      refine kat_lt h1 h3 k1 k3 ?_
      have n1 : va.size = (x :: xs).length := by simpa using NestedAll.length _ _ h4
      have n2 : va'.size = (y :: ys).length := by simpa using NestedAll.length _ _ k4
      rw [n1, n2]
      simp only [NestedKey.depth] at hd8
      refine katlex_nd _ _ _ _ 0 h4 k4 ok (by omega) (fun _ eb => ⟨fun z hz => ?_, fun z hz => ?_⟩) ⟨rfl, by rw [ltD]⟩
      · obtain ⟨t, r, e⟩ := hb eb _ hd
        injection e with e
        injection e with e _
        injection hz with hz
        exact ⟨t, by rw [← hz, e]⟩
      · obtain ⟨t, r, e⟩ := hb eb _ he
        injection e with e
        injection e with e _
        injection hz with hz
        exact ⟨t, by rw [← hz, e]⟩
theorem kattups_of {h : Heap} {ds : List ND} (S : ∀ d ∈ ds, ∃ x r, d = NestedKey.tup (x :: r)) : ∀ {vs : List Value}, (∀ v ∈ vs, ∃ d ∈ ds, NestedIs h d v) →
    ∃ fs, KatTups h vs fs ∧ fs.length = vs.length ∧ ∀ f ∈ fs, ∃ x r, NestedKey.tup (x :: r) ∈ ds ∧ NestedIs h x f
  | [], _ => ⟨[], KatTups.nil, rfl, fun f hf => by cases hf⟩
  | v :: vs, hv => by
    obtain ⟨fs, h1, h2, h3⟩ := kattups_of S (vs := vs) fun u hu => hv u (List.mem_cons_of_mem _ hu)
    obtain ⟨d, hd, rd⟩ := hv v List.mem_cons_self
    obtain ⟨x, r, rfl⟩ := S d hd
    cases rd with
    | @tup a o va n _ k1 k2 k3 k4 =>
      generalize hva : va.toList = vl at k4
      cases k4 with
      | @cons _ f _ rest r1 r2 =>
        refine ⟨f :: fs, KatTups.cons k1 k2 k3 ?_ h1, by rw [List.length_cons, List.length_cons, h2], fun z hz => ?_⟩
        · rw [← Array.getElem?_toList, hva] <;> rfl
        · rcases List.mem_cons.mp hz with e | hz
          · rw [e]; exact ⟨x, r, hd, r1⟩
          · exact h3 z hz
theorem kind_nd {vs : List Value} {ds : List ND} (S : Srtb ds) (h0 : 0 < vs.length) (hv : ∀ v ∈ vs, ∃ d ∈ ds, NestedIs s.heap d v) :
    ∃ b : Bool, (b = true → ∀ d ∈ ds, ∃ t r, d = NestedKey.tup (.text t :: r)) ∧ ∀ (Q : SortKind → Shared → Prop) (E : Value → Shared → Prop), Q (tuples' b) s → wpAny (model prog w) A (keyKind' vs.toArray) Q E s := by
  obtain ⟨fs, h1, h2, h3⟩ := kattups_of S.tup hv
  rcases S.fst with hf | hf
  · refine ⟨true, fun _ => hf, fun Q E q => ?_⟩
    have q' : Q (tuples' (Value.type "str" != Value.type "tuple")) s := by
      rw [show (Value.type "str" != Value.type "tuple") = true from by first | decide +kernel | rfl]
      exact q
    refine kat_kind (T := .type "str") h1 (by omega) (fun f hm => ?_) (by rfl) q'
    obtain ⟨x, r, hx, rx⟩ := h3 f hm
    obtain ⟨t, r', e⟩ := hf _ hx
    injection e with e
    injection e with e _
    subst e
    cases rx
    exact Looks.now
  · refine ⟨false, fun z => Bool.noConfusion z, fun Q E q => ?_⟩
    have q' : Q (tuples' (Value.type "tuple" != Value.type "tuple")) s := by
      rw [show (Value.type "tuple" != Value.type "tuple") = false from by first | decide +kernel | rfl]
      exact q
    refine kat_kind (T := .type "tuple") h1 (by omega) (fun f hm => ?_) (by rfl) q'
    obtain ⟨x, r, hx, rx⟩ := h3 f hm
    obtain ⟨t, r', e⟩ := hf _ hx
    injection e with e
    injection e with e _
    subst e
    cases rx with
    | @tup a o _ _ _ k1 k2 k3 k4 =>
      have q : Looks (model prog w) s.heap (typeOf (.ref a)) o.cls := (Looks.ld k1).andThen .now
      rw [k2] at q
      exact q
theorem sortable_nd {a : Addr} {vs : List Value} {ds : List ND} (S : Srtb ds) (h0 : 0 < vs.length) (hv : ∀ v ∈ vs, ∃ d ∈ ds, NestedIs s.heap d v) (hu : A.units + 41 < cLine) (ha : ∀ o, s.heap.get? a = some o → o.cls = .type "list") :
    SrtO.SortableO prog w A s a vs fun v u => ltD (datOf s.heap v) (datOf s.heap u) := by
  intro h' keep
  have kt : ∀ b o, s.heap.get? b = some o → o.cls = .type "tuple" → h'.get? b = some o := fun b o e c => keep b o (fun z => by
    subst z
    have q := ha o e
    rw [c] at q
    injection q with q
    exact absurd q (by decide)) e
  have hv' : ∀ v ∈ vs, ∃ d ∈ ds, NestedIs h' d v := fun v hm => by
    obtain ⟨d, hd, r⟩ := hv v hm
    exact ⟨d, hd, is_keepT kt d v r⟩
  have e : (fun v u => ltD (datOf s.heap v) (datOf s.heap u)) = (fun v u => ltD (datOf s.heap v) (datOf s.heap u)) := rfl
  obtain ⟨b, hb, hk⟩ := kind_nd (prog := prog) (w := w) (A := A) (s := { s with heap := h' }) S h0 hv'
  refine ⟨tuples' b, hk, fun p q hm hm' => ?_⟩
  have c := cmp_nd (prog := prog) (w := w) (A := A) (s := { s with heap := h' }) S hv' hu hb p q hm hm'
  have same : ∀ v ∈ vs, datOf h' v = datOf s.heap v := fun v hm => by
    obtain ⟨d, hd, r⟩ := hv v hm
    rw [datOf_eq r, datOf_eq (is_keepT kt d v r)]
  have e1 : SrtO.lt2 (fun v u => ltD (datOf h' v) (datOf h' u)) p q = SrtO.lt2 (fun v u => ltD (datOf s.heap v) (datOf s.heap u)) p q := by
    show ltD (datOf h' p.1) (datOf h' q.1) = ltD (datOf s.heap p.1) (datOf s.heap q.1)
    rw [same _ hm, same _ hm']
  rw [← e1]
  exact c
/-- sorted(xs) of nested data: the new list d holds a rearrangement, in order, equal ones as they stood -/
theorem sorted_nd {l : Addr} {vs : List Value} {ds : List ND} {Q : Value → Shared → Prop} (S : Srtb ds) (hl : s.heap.IsList l vs.toArray) (hz : vs.length ≤ sizeLine) (hv : ∀ v ∈ vs, ∃ d ∈ ds, NestedIs s.heap d v) (hu : A.units + 43 < cLine)
    (h : ∀ (h' : Heap) (d : Addr) (out : List Value), out.Perm vs → out.Pairwise (fun v u => ltD (datOf s.heap u) (datOf s.heap v) = false) → (∀ b o, s.heap.get? b = some o → h'.get? b = some o) → s.heap.objs.size ≤ d →
      (∃ n, h'.get? d = some (seqObj "list" out.toArray n)) → Q (.ref d) { s with heap := h' }) :
    wpAny (model prog w) A (call (.builtin "sorted") [.ref l]) Q E s := by
  refine SrtO.sorted_ord (swo_dat s.heap) hl hz (fun h2 h₁ a ha kk => ?_) fun out hs hb => ?_
  · have hv1 : ∀ v ∈ vs, ∃ d ∈ ds, NestedIs h₁ d v := fun v hm => by
      obtain ⟨d, hd, r⟩ := hv v hm
      exact ⟨d, hd, NestedIs.at (fun b o _ _ e _ => (kk b o e).2) d v r⟩
    have q := sortable_nd (prog := prog) (w := w) (A := A.in1.in1) (s := { s with heap := h₁ }) (a := a) S (by omega) hv1 (by show A.units + 1 + 1 + 41 < cLine; omega) fun o e => by
      have e' : some o = some (seqObj "list" vs.toArray 0) := e.symm.trans ha
      cases e'
      rfl
    intro h' keep
    obtain ⟨κ, c1, c2⟩ := q h' keep
    refine ⟨κ, c1, fun p r hp hr => ?_⟩
    have c3 := c2 p r hp hr
    have same : ∀ v ∈ vs, datOf h₁ v = datOf s.heap v := fun v hm => by
      obtain ⟨d, hd, rr⟩ := hv v hm
      rw [datOf_eq rr, datOf_eq (NestedIs.at (fun b o _ _ e _ => (kk b o e).2) d v rr)]
    have e1 : SrtO.lt2 (fun v u => ltD (datOf h₁ v) (datOf h₁ u)) p r = SrtO.lt2 (fun v u => ltD (datOf s.heap v) (datOf s.heap u)) p r := by
      show ltD (datOf h₁ p.1) (datOf h₁ r.1) = ltD (datOf s.heap p.1) (datOf s.heap r.1)
      rw [same _ hp, same _ hr]
    rw [← e1]
    exact c3
  · exact h _ _ out hb.perm hs (fun b o e => sortedAll_old e) (Nat.le_succ _) (sortedAll_at s.heap vs out.toArray)
end
end TC

/-! sets of nested data (tuples): made of a tuple, and sorted -/
namespace TC
open PySem PySem.Spec PyProof.Rows L2
theorem all_mem {h : Heap} : ∀ {ks : List ND} {vs : List Value}, NestedAll h ks vs → ∀ v ∈ vs, ∃ d ∈ ks, NestedIs h d v
  | [], _, r, v, hv => by
    cases r
    cases hv
  | k :: ks, _, r, v, hv => by
    cases r with
    | cons r1 r2 =>
      rcases List.mem_cons.mp hv with e | hv
      · exact ⟨k, List.mem_cons_self, by rw [e]; exact r1⟩
      · obtain ⟨d, hd, q⟩ := all_mem r2 v hv
        exact ⟨d, List.mem_cons_of_mem _ hd, q⟩
theorem depth_mem : ∀ {ks : List ND} {d : ND}, d ∈ ks → d.depth ≤ NestedKey.depthAll ks
  | [], _, h => by cases h
  | k :: ks, d, h => by
    simp only [NestedKey.depthAll]
    rcases List.mem_cons.mp h with e | h
    · rw [e]; omega
    · have q := depth_mem h
      omega
section
variable {P : Program} {w : World} {A : Around} {E : Value → Shared → Prop} {s : Shared}
/-! ### small questions -/
theorem hashBy_nd : ∀ (n : Nat) (k : ND) (v : Value) (Q : Bool → Shared → Prop), NestedIs s.heap k v → (∀ b, Q b s) → wpAny (model P w) A (hashByValue n v) Q E s := by
  intro n
  induction n with
  | zero =>
    intro k v Q r h
    cases r <;> exact wpAny_pure (h _)
  | succ n ih =>
    intro k v Q r h
    cases r with
    | none => exact wpAny_pure (h _)
    | bool e => exact wpAny_pure (h _)
    | int i t => exact wpAny_pure (h _)
    | text x t => exact wpAny_pure (h _)
    | @tup a o vs m ks hg hc hd hk =>
      have hT : s.TypeIs (.ref a) "tuple" := ⟨o, hg, hc⟩
      unfold hashByValue
      refine wpAny_bind (wpAny_specialOf hT F.slot_tuple_hash.lookup ?_)
      show wpAny _ _ (seqItems? (.ref a) >>= _) _ _ s
      refine wpAny_bind (wpAny_seqItems hg hd ?_)
      refine wpAny_bind ?_
      show wpAny _ _ (forIn vs _ _) _ _ s
      rw [← Array.forIn_toList]
      refine wpAny_forIn_list _ (fun rest r t => r.1 = none ∧ t = s ∧ ∀ v ∈ rest, ∃ d ∈ ks, NestedIs s.heap d v) _ ?_ ?_ _ _ ⟨rfl, rfl, all_mem hk⟩
      · rintro v rest r t ⟨hr, rfl, hall⟩
        obtain ⟨d, hd, rd⟩ := hall v List.mem_cons_self
        refine wpAny_bind (ih d v _ rd fun b => ?_)
        cases b with
        | true => exact wpAny_pure ⟨rfl, rfl, fun u hu => hall u (List.mem_cons_of_mem _ hu)⟩
        | false => exact wpAny_pure (wpAny_pure (h false))
      · rintro ⟨r1, r2⟩ t ⟨hr, rfl, _⟩
        simp only at hr
        subst hr
        exact wpAny_pure (h true)
theorem ofA_nd : ∀ (n : Nat) (k : ND) (v : Value) (Q : Bool → Shared → Prop), NestedIs s.heap k v → k.depth ≤ n → Q false s → wpAny (model P w) A (ofAClassStatement n v) Q E s := by
  intro n
  induction n with
  | zero =>
    intro k v Q r hd h
    cases r with
    | none => exact wpAny_pure h
    | bool e => exact wpAny_pure h
    | int i t => exact wpAny_pure h
    | text x t => exact wpAny_pure h
    | tup _ _ _ _ => simp [NestedKey.depth] at hd
  | succ n ih =>
    intro k v Q r hdp h
    cases r with
    | none => exact wpAny_pure h
    | bool e => exact wpAny_pure h
    | int i t => exact wpAny_pure h
    | text x t => exact wpAny_pure h
    | @tup a o vs m ks hg hc hd hk =>
      have hT : s.TypeIs (.ref a) "tuple" := ⟨o, hg, hc⟩
      simp only [NestedKey.depth] at hdp
      unfold ofAClassStatement
      refine wpAny_bind (wpAny_typeOf hT ?_)
      dsimp only
      have e : (("tuple" : String) == "tuple") = true := by decide
      simp only [e, if_true, Bool.not_true, Bool.false_eq_true, if_false]
      try refine wpAny_bind (wpAny_pure ?_)
      try simp only [Bool.not_true, Bool.false_eq_true, if_false]
      show wpAny _ _ (seqItems? (.ref a) >>= _) _ _ s
      refine wpAny_bind (wpAny_seqItems hg hd ?_)
      dsimp only
      refine wpAny_bind ?_
      show wpAny _ _ (forIn vs _ _) _ _ s
      rw [← Array.forIn_toList]
      refine wpAny_forIn_list _ (fun rest r t => r.1 = none ∧ t = s ∧ ∀ v ∈ rest, ∃ d ∈ ks, NestedIs s.heap d v) _ ?_ ?_ _ _ ⟨rfl, rfl, all_mem hk⟩
      · rintro v rest r t ⟨hr, rfl, hall⟩
        obtain ⟨d, hd, rd⟩ := hall v List.mem_cons_self
        have q := depth_mem hd
        refine wpAny_bind (ih d v _ rd (by omega) ?_)
        exact wpAny_pure ⟨rfl, rfl, fun u hu => hall u (List.mem_cons_of_mem _ hu)⟩
      · rintro ⟨r1, r2⟩ t ⟨hr, rfl, _⟩
        simp only at hr
        subst hr
        exact wpAny_pure h
/-- a search among tuples that are not too deep (or the very ones) shows nothing -/
theorem seen_nd {k : ND} {b : Addr} {Q : Bool → Shared → Prop} (hk : NestedIs s.heap k (.ref b)) {ys : List Value} (hy : ∀ y ∈ ys, ∃ k' c, y = Value.ref c ∧ NestedIs s.heap k' (.ref c) ∧ (b = c ∨ (k.depth ≤ 8 ∧ k'.depth ≤ 8))) (h : Q false s) :
    wpAny (model P w) A (searchCouldBeSeen (.ref b) ys) Q E s := by
  unfold searchCouldBeSeen
  refine wpAny_bind ?_
  refine wpAny_forIn_list _ (fun rest r t => r.1 = none ∧ t = s ∧ ∀ y ∈ rest, ∃ k' c, y = Value.ref c ∧ NestedIs s.heap k' (.ref c) ∧ (b = c ∨ (k.depth ≤ 8 ∧ k'.depth ≤ 8))) _ ?_ ?_ _ _ ⟨rfl, rfl, hy⟩
  · rintro v rest r t ⟨hr, rfl, hall⟩
    obtain ⟨k', c, rfl, hc, hd⟩ := hall v List.mem_cons_self
    have more : ∀ y ∈ rest, ∃ k' c, y = Value.ref c ∧ NestedIs t.heap k' (.ref c) ∧ (b = c ∨ (k.depth ≤ 8 ∧ k'.depth ≤ 8)) := fun u hu => hall u (List.mem_cons_of_mem _ hu)
    dsimp only
    by_cases hv : (b == c || (carriedByValue (.ref b) && carriedByValue (.ref c))) = true
    · refine wp_if_pos hv ?_
      exact wpAny_pure ⟨rfl, rfl, more⟩
    · refine wp_if_neg hv ?_
      have hn : ¬ b = c := fun e => hv (by rw [e]; simp)
      obtain ⟨d1, d2⟩ := hd.resolve_left hn
      refine wpAny_bind (quiet_key k _ 8 t hk d1 _ _ _ ?_)
      simp only [Bool.not_true, Bool.false_eq_true, if_false]
      refine wpAny_bind (quiet_key k' _ 8 t hc d2 _ _ _ ?_)
      simp only [Bool.not_true, Bool.false_eq_true, if_false]
      refine wpAny_bind (ofA_nd 8 k _ _ hk d1 ?_)
      simp only [Bool.false_eq_true, if_false]
      refine wpAny_bind (ofA_nd 8 k' _ _ hc d2 ?_)
      simp only [Bool.false_eq_true, if_false]
      exact wpAny_pure ⟨rfl, rfl, more⟩
  · rintro ⟨r1, r2⟩ t ⟨hr, rfl, _⟩
    simp only at hr
    subst hr
    exact wpAny_pure h
/-! ### the set -/
abbrev hN (w : World) (k : ND) : Int := k.hash w
def rowsN (w : World) (L : List (Addr × ND)) : List (Int × Value) := L.map fun p => (hN w p.2, Value.ref p.1)
structure SetN (w : World) (h : Heap) (a : Addr) (L : List (Addr × ND)) (es : Array (Int × Value)) (ep : Nat) (t : SetTable) : Prop where
  ob : ∃ o, h.get? a = some o ∧ o.ExactSet ∧ o.data = .set es ep t
  rows : es.toList = rowsN w L
  tab : TabOk t (L.map fun p => hN w p.2)
  nd : (L.map (·.2)).Nodup
  is : ∀ p ∈ L, NestedIs h p.2 (.ref p.1)
  led : w.params.followText "set-order" = true ∨ t.led = true
  room : L.length * 5 < t.mask * 3
  few : L.length < 64
variable {a : Addr} {L : List (Addr × ND)} {es : Array (Int × Value)} {ep : Nat} {t : SetTable}
theorem len_rows (L : List (Addr × ND)) : (rowsN w L).length = L.length := by
  unfold rowsN
  exact List.length_map _
theorem SetN.size {h : Heap} (R : SetN w h a L es ep t) : es.size = L.length := by
  have q := congrArg List.length R.rows
  rw [len_rows, Array.length_toList] at q
  exact q
theorem SetN.fits {h : Heap} (R : SetN w h a L es ep t) : t.fits es.size = true := by
  have h1 := R.tab.sz
  rw [List.length_map] at h1
  have h2 := R.size
  have h3 := R.room
  unfold SetTable.fits SetTable.fill
  rw [R.tab.dm, Bool.and_eq_true, beq_iff_eq, decide_eq_true_eq]
  show t.place.size = es.size ∧ t.place.size + 0 ≤ t.mask
  omega
theorem SetN.entry {h : Heap} (R : SetN w h a L es ep t) {i : Nat} {p : Addr × ND} (q : L[i]? = some p) : es[i]? = some (hN w p.2, Value.ref p.1) := by
  rw [← Array.getElem?_toList, R.rows]
  unfold rowsN
  rw [List.getElem?_map, q] <;> rfl
theorem SetN.gw {h : Heap} (R : SetN w h a L es ep t) : ¬ t.gaveWay = true := by
  unfold SetTable.gaveWay
  rw [mask_odd R.tab.mok]
  decide
/-- the probe at the c-th step of the way of hash h -/
abbrev stepP (m : Nat) (h : Int) (c : Nat) : SetTable.Probe := nth m (runAt m (SetTable.bits h % (m + 1)) (SetTable.bits h)) c
theorem stepP_none (m : Nat) (h : Int) (c : Nat) : (stepP m h c).dummy = none := by
  have key : ∀ (n : Nat) (p : SetTable.Probe), p.dummy = none → (nth m p n).dummy = none := by
    intro n
    induction n with
    | zero => intro p q; exact q
    | succ n ih =>
      intro p q
      refine ih (adv m p) ?_
      unfold adv
      split <;> exact q
  exact key c _ rfl
theorem stepP_add (m : Nat) (h : Int) (c q : Nat) : nth m (stepP m h c) q = stepP m h (c + q) := (nth_add m c _ q).symm
/-- the search, from the c-th step on -/
theorem searchN (R : SetN w s.heap a L es ep t) {x : Addr} {k : ND} (hx : NestedIs s.heap k (.ref x)) (hu : A.units + 60 < cLine) (hdk : k.depth ≤ 50) (hq : ∀ p ∈ L, x = p.1 ∨ (k.depth ≤ 8 ∧ p.2.depth ≤ 8))
    {K : Nat} (hKf : K < 10 * SetTable.turns t.mask) (hK : way t.mask (hN w k) K ∉ t.place.toList) (hKb : ∀ c, c < K → way t.mask (hN w k) c ∈ t.place.toList) {Q : SetFound → Shared → Prop}
    (hin : k ∈ L.map (·.2) → Q (.there none) s) (hout : k ∉ L.map (·.2) → Q (.free (way t.mask (hN w k) K) false) s) :
    ∀ (f c : Nat) (stand : Option SetTable.Probe), stand.getD (t.probeStart (hN w k)) = stepP t.mask (hN w k) c → c ≤ K → K - c < f →
      (∀ (i : Nat) p, L[i]? = some p → p.2 = k → ∃ c', c ≤ c' ∧ c' < K ∧ t.place.toList[i]? = some (way t.mask (hN w k) c')) →
      wpAny (model P w) A (setSearchFrom a (.ref x) (hN w k) true f stand) Q E s := by
  intro f
  induction f with
  | zero => intro c stand _ _ hf _; exact absurd hf (Nat.not_lt_zero _)
  | succ f ih =>
    intro c stand hst hc hf hre
    obtain ⟨o, ho, hex, hd⟩ := R.ob
    rw [setSearchFrom_succ]
    refine wpAny_bind (wpAny_setState_of ho hd R.fits ?_)
    dsimp only
    refine wp_if_neg R.gw ?_
    try refine wpAny_bind (wpAny_pure ?_)
    have e1 : ∀ q, (nth t.mask (stepP t.mask (hN w k) c) q).j = way t.mask (hN w k) (c + q) := fun q => congrArg SetTable.Probe.j (stepP_add _ _ c q)
    have eK : c + (K - c) = K := by omega
    have spec := go_spec t R.tab.ris R.tab.dm (fun i => (es[i]?.map (·.1)).getD 0) (hN w k) (10 * SetTable.turns t.mask) (K - c) _ (stepP_none t.mask (hN w k) c) (by omega)
      (fun q hq => by rw [e1]; exact hKb (c + q) (by omega)) (by rw [e1, eK]; exact hK)
    have hashAt : ∀ (i : Nat) p, L[i]? = some p → (fun i => (es[i]?.map (·.1)).getD 0) i = hN w p.2 := fun i p hp => by
      show (es[i]?.map (·.1)).getD 0 = _
      rw [R.entry hp] <;> rfl
    rcases spec with ⟨q, i, hqK, hi, hh, hno, hpr⟩ | ⟨hno, hpr⟩
    · have hpr' : t.probe (fun i => (es[i]?.map (·.1)).getD 0) (hN w k) (stand.getD (t.probeStart (hN w k))) = some (.candidate (way t.mask (hN w k) (c + q)) i (stepP t.mask (hN w k) (c + (q + 1)))) := by
        rw [hst, ← e1, ← stepP_add]
        exact hpr
      rw [hpr']
      dsimp only
      rw [e1] at hi
      have hil : i < L.length := by
        have h1 : i < t.place.toList.length := (List.getElem?_eq_some_iff.mp hi).1
        have h2 := R.tab.sz
        rw [List.length_map] at h2
        rw [Array.length_toList] at h1
        omega
      obtain ⟨p, hp⟩ : ∃ p, L[i]? = some p := ⟨_, List.getElem?_eq_getElem hil⟩
      have hmem : p ∈ L := List.mem_of_getElem? hp
      have hpt := R.is p hmem
      have go : wpAny (model P w) A (searchRest a (.ref x) (hN w k) true f es t (way t.mask (hN w k) (c + q)) i (stepP t.mask (hN w k) (c + (q + 1)))) Q E s := by
        unfold searchRest
        rw [R.entry hp]
        dsimp only
        refine wpAny_bind (wpAny_holding (eqAt_key p.2 k A s _ _ hpt hx (by omega) P w _ _ ?_))
        refine wpAny_bind (wpAny_setState_of ho hd R.fits ?_)
        dsimp only
        by_cases hkk : p.2 = k
        · have eb : NestedKey.beq p.2 k = true := by rw [hkk]; exact NestedKey.beq_self k
          refine wp_if_pos (by rw [eb]; rfl) ?_
          exact wpAny_pure (hin (List.mem_map.mpr ⟨p, hmem, hkk⟩))
        · have eb : NestedKey.beq p.2 k = false := beq_no hkk
          refine wp_if_neg (by rw [eb]; decide) ?_
          try refine wpAny_bind (wpAny_pure ?_)
          rw [sameMem]
          dsimp only
          have hsl : t.slot (way t.mask (hN w k) (c + q)) = .live i := slot_live R.tab.ris hi
          simp only [if_true, hsl, R.entry hp]
          refine wpAny_bind (wpAny_isSame_ref_self (wpAny_bind (wpAny_pure ?_)))
          simp only [if_true]
          refine wp_if_neg (by rw [eb]; decide) ?_
          refine ih (c + (q + 1)) _ rfl (by omega) (by omega) fun i0 p0 h0 hk0 => ?_
          obtain ⟨c', a1, a2, a3⟩ := hre i0 p0 h0 hk0
          refine ⟨c', ?_, a2, a3⟩
          rcases Nat.lt_trichotomy c' (c + q) with z | z | z
          · exfalso
            refine hno (c' - c) i0 (by omega) (by rw [e1, show c + (c' - c) = c' by omega]; exact a3) ?_
            exact (hashAt i0 p0 h0).trans (congrArg (hN w) hk0)
          · exfalso
            rw [z] at a3
            have s0 := slot_live R.tab.ris a3
            rw [hsl] at s0
            injection s0 with s0
            rw [← s0, hp] at h0
            exact hkk ((congrArg Prod.snd (Option.some.inj h0)).trans hk0)
          · omega
      by_cases hl : t.led = true
      · refine wp_if_neg (by simp [hl]) ?_
        try refine wpAny_bind (wpAny_pure ?_)
        exact go
      · refine wp_if_pos (by simp [hl]) ?_
        refine wpAny_bind (seen_nd hx (fun y hy => ?_) ?_)
        · obtain ⟨e, he, ee⟩ := List.mem_map.mp hy
          have he1 : e ∈ es ∧ e.1 = hN w k := by simpa using he
          have he2 : e ∈ es.toList := by simpa using he1.1
          rw [R.rows] at he2
          obtain ⟨p2, hp2, e2⟩ := List.mem_map.mp he2
          refine ⟨p2.2, p2.1, ?_, R.is p2 hp2, hq p2 hp2⟩
          rw [← ee, ← e2]
        · refine wp_if_neg (by decide) ?_
          try refine wpAny_bind (wpAny_pure ?_)
          exact go
    · have hpr' : t.probe (fun i => (es[i]?.map (·.1)).getD 0) (hN w k) (stand.getD (t.probeStart (hN w k))) = some (.empty (way t.mask (hN w k) K) none) := by
        have e2 : way t.mask (hN w k) K = (nth t.mask (stepP t.mask (hN w k) c) (K - c)).j := by rw [e1, eK]
        rw [hst, e2]
        exact hpr
      rw [hpr']
      dsimp only
      refine wpAny_pure (hout fun hm => ?_)
      obtain ⟨p0, h0, hk0⟩ := List.mem_map.mp hm
      obtain ⟨i0, hi0, e0⟩ := List.getElem_of_mem h0
      have h00 : L[i0]? = some p0 := by rw [List.getElem?_eq_getElem hi0, e0]
      obtain ⟨c', a1, a2, a3⟩ := hre i0 p0 h00 hk0
      refine hno (c' - c) i0 (by omega) (by rw [e1, show c + (c' - c) = c' by omega]; exact a3) ?_
      exact (hashAt i0 p0 h00).trans (congrArg (hN w) hk0)
theorem searchN_at (R : SetN w s.heap a L es ep t) {x : Addr} {k : ND} (hx : NestedIs s.heap k (.ref x)) (hu : A.units + 60 < cLine) (hdk : k.depth ≤ 50) (hq : ∀ p ∈ L, x = p.1 ∨ (k.depth ≤ 8 ∧ p.2.depth ≤ 8)) {Q : SetFound → Shared → Prop}
    (hin : k ∈ L.map (·.2) → Q (.there none) s)
    (hout : ∀ K, k ∉ L.map (·.2) → way t.mask (hN w k) K ∉ t.place.toList → (∀ c, c < K → way t.mask (hN w k) c ∈ t.place.toList) → Q (.free (way t.mask (hN w k) K) false) s) :
    wpAny (model P w) A (setSearch a (.ref x) (hN w k) true) Q E s := by
  have hroom := R.room
  obtain ⟨K, hKf, hK, hKb⟩ := R.tab.first (by rw [List.length_map]; omega) (hN w k)
  have hbig : K < 100000 := by
    have q : 10 * SetTable.turns t.mask ≤ 1420 := by
      unfold SetTable.turns
      rcases R.tab.mok with e | e | e <;> omega
    omega
  unfold setSearch
  refine searchN R hx hu hdk hq hKf hK hKb hin (fun hn => hout K hn hK hKb) 100000 0 none rfl (Nat.zero_le _) (by omega) fun i p hp hk => ?_
  have hi : (L.map fun p => hN w p.2)[i]? = some (hN w k) := by rw [List.getElem?_map, hp, ← hk] <;> rfl
  have hil : i < t.place.toList.length := by
    have h1 : i < L.length := (List.getElem?_eq_some_iff.mp hp).1
    have h2 := R.tab.sz
    rw [List.length_map] at h2
    rw [Array.length_toList]
    omega
  have hj := List.getElem?_eq_getElem hil
  obtain ⟨c, hc, e⟩ := R.tab.before hK hi hj
  exact ⟨c, Nat.zero_le _, hc, by rw [hj, e]⟩
end
end TC

namespace TC
open PySem PySem.Spec PyProof.Rows L2
section
variable {P : Program} {w : World} {A : Around} {E : Value → Shared → Prop} {s : Shared}
theorem is_but {h h' : Heap} {k : ND} {v : Value} {a : Addr} {o : Obj} (r : NestedIs h k v) (ho : h.get? a = some o) (hc : o.cls = .type "set") (hs : Heap.SameBut a h h') : NestedIs h' k v :=
  is_keepT (fun b u e c => (hs.2 b fun z => by
    subst z
    rw [ho] at e
    cases e
    rw [hc] at c
    injection c with c
    exact absurd c (by decide)).trans e) k v r
theorem rowsN_put (L : List (Addr × ND)) (p : Nat) (x : Addr) (k : ND) : rowsN w (L.take p ++ (x, k) :: L.drop p) = (rowsN w L).take p ++ (hN w k, Value.ref x) :: (rowsN w L).drop p := by
  unfold rowsN
  rw [List.map_append, List.map_cons, List.map_take, List.map_drop]
theorem pick_all {α : Type} (L : List α) : (List.range L.length).filterMap (fun i => L[i]?) = L := by
  have key : ∀ n, n ≤ L.length → (List.range n).filterMap (fun i => L[i]?) = L.take n := by
    intro n
    induction n with
    | zero => intro _; rfl
    | succ n ih =>
      intro hn
      have hlt : n < L.length := hn
      rw [List.range_succ, List.filterMap_append, ih (Nat.le_of_lt hlt), List.take_succ, List.getElem?_eq_getElem hlt]
      rw [List.filterMap_cons_some (List.getElem?_eq_getElem hlt)] <;> rfl
  rw [key L.length (Nat.le_refl _), List.take_length]
theorem order_rowsN (L : List (Addr × ND)) (es : Array (Int × Value)) (order : Array Nat) (hr : es.toList = rowsN w L) (hp : order.toList.Perm (List.range L.length)) :
    ∃ L2, (order.filterMap (es[·]?)).toList = rowsN w L2 ∧ L2.Perm L ∧ (L2.map fun p => hN w p.2) = order.toList.map fun i => (es.map (·.1)).getD i 0 := by
  have hsz : es.size = L.length := by
    have q := congrArg List.length hr
    rw [len_rows, Array.length_toList] at q
    exact q
  have ent : ∀ i (h : i < L.length), es[i]? = some (hN w (L[i]).2, Value.ref (L[i]).1) := fun i h => by
    rw [← Array.getElem?_toList, hr]
    unfold rowsN
    rw [List.getElem?_map, List.getElem?_eq_getElem h] <;> rfl
  have key : ∀ l : List Nat, (∀ i ∈ l, i < L.length) → ∃ L2 : List (Addr × ND), l.filterMap (fun i => es[i]?) = rowsN w L2 ∧ L2 = l.filterMap (fun i => L[i]?) ∧ (L2.map fun p => hN w p.2) = l.map fun i => (es.map (·.1)).getD i 0 := by
    intro l
    induction l with
    | nil => intro _; exact ⟨[], rfl, rfl, rfl⟩
    | cons i l ih =>
      intro hl
      have hi := hl i List.mem_cons_self
      obtain ⟨L2, e1, e2, e3⟩ := ih fun j hj => hl j (List.mem_cons_of_mem _ hj)
      have e5 : (es.map (·.1))[i]? = some (hN w (L[i]).2) := by rw [Array.getElem?_map, ent i hi] <;> rfl
      refine ⟨L[i] :: L2, ?_, ?_, ?_⟩
      · rw [List.filterMap_cons_some (ent i hi), e1] <;> rfl
      · rw [List.filterMap_cons_some (List.getElem?_eq_getElem hi), e2]
      · rw [List.map_cons, List.map_cons, e3]
        have e4 : (es.map (·.1)).getD i 0 = hN w (L[i]).2 := by simp [Array.getD_eq_getD_getElem?, e5]
        rw [e4]
  obtain ⟨L2, e1, e2, e3⟩ := key order.toList fun i hi => List.mem_range.mp (hp.mem_iff.mp hi)
  refine ⟨L2, by first | (rw [Array.toList_filterMap]; exact e1) | simpa using e1, ?_, e3⟩
  have h1 : L2.Perm ((List.range L.length).filterMap fun i => L[i]?) := by
    rw [e2]
    exact hp.filterMap _
  rw [pick_all] at h1
  exact h1
variable {a : Addr} {L : List (Addr × ND)} {es : Array (Int × Value)} {ep : Nat} {t : SetTable}
/-- the table laid anew, larger -/
theorem relayN {o : Obj} (ho : s.heap.get? a = some o) (hex : o.ExactSet) (hd : o.data = .set es ep t) (hrows : es.toList = rowsN w L) (hsz : t.place.size = es.size) (hdm : t.dummies = #[]) (hfl : es.size ≤ t.mask)
    (nd : (L.map (·.2)).Nodup) (is : ∀ p ∈ L, NestedIs s.heap p.2 (.ref p.1)) (ld : w.params.followText "set-order" = true ∨ t.led = true) (few : L.length < 64) {wanted M : Nat}
    (hw : SetTable.sizeAbove wanted - 1 = M) (hM : MaskOk M) (hw2 : SetTable.sizeAbove wanted ≤ 128) (hn : L.length * 5 < M * 3) {Q : Unit → Shared → Prop}
    (hQ : ∀ h' L' es' ep' t', Heap.SameBut a s.heap h' → SetN w h' a L' es' ep' t' → L'.Perm L → Q () { s with heap := h' }) : wpAny (model P w) A (setRelay a wanted) Q E s := by
  have hsl : es.size = L.length := by
    have q := congrArg List.length hrows
    rw [len_rows, Array.length_toList] at q
    exact q
  have hfits : t.fits es.size = true := by
    unfold SetTable.fits SetTable.fill
    rw [hdm, Bool.and_eq_true, beq_iff_eq, decide_eq_true_eq]
    show t.place.size = es.size ∧ t.place.size + 0 ≤ t.mask
    omega
  obtain ⟨t', order, e, hp, T, em, el, ep', ed⟩ := relaid_ok t (hs := es.map (·.1)) (wanted := wanted) hw hM (by rw [Array.size_map, hsl]; omega)
  rw [Array.size_map, hsl] at hp
  obtain ⟨L2, r1, r2, r3⟩ := order_rowsN L es order hrows hp
  rw [← r3] at T
  have hs2 : (order.filterMap (es[·]?)).size = es.size := by
    have q := congrArg List.length r1
    rw [len_rows, Array.length_toList, r2.length_eq] at q
    rw [q, hsl]
  rw [setRelay_eq]
  refine wpAny_bind (wpAny_setState_of ho hd hfits ?_)
  dsimp only
  refine wp_if_neg (by rw [sizeLine_eq]; omega) ?_
  try refine wpAny_bind (wpAny_pure ?_)
  rw [e]
  dsimp only
  refine wpAny_bind ?_
  refine wp_if_neg (by rw [hs2]; simp) ?_
  try refine wpAny_bind (wpAny_pure ?_)
  refine wpAny_pure ?_
  dsimp only
  refine wpAny_storeSet_of ho hd ?_ (by rw [hs2, hsl, sizeLine_eq]; omega)
  have sb : Heap.SameBut a s.heap (s.heap.update a (Obj.putSet (order.filterMap (es[·]?)) t')) := Heap.SameBut.update ..
  refine hQ _ L2 (order.filterMap (es[·]?)) (ep + 1) t' sb ?_ r2
  refine ⟨⟨_, store_at ho hd, ⟨hex.1, hex.2.1, hex.2.2⟩, rfl⟩, r1, T, ?_, fun p hpm => is_but (is p (r2.mem_iff.mp hpm)) ho hex.1 sb, by rw [el]; exact ld, ?_, by rw [r2.length_eq]; exact few⟩
  · exact (r2.map (·.2)).nodup_iff.mpr nd
  · rw [r2.length_eq, em]
    exact hn
/-- adding -/
theorem addN (R : SetN w s.heap a L es ep t) {x : Addr} {k : ND} (hx : NestedIs s.heap k (.ref x)) (hu : A.units + 60 < cLine) (hdk : k.depth ≤ 50) (hq : ∀ p ∈ L, x = p.1 ∨ (k.depth ≤ 8 ∧ p.2.depth ≤ 8)) (hfew : L.length + 1 < 64) {Q : Bool → Shared → Prop}
    (hQ : ∀ b h' L' es' ep' t', Heap.SameBut a s.heap h' → SetN w h' a L' es' ep' t' → (k ∈ L.map (·.2) → L' = L) → (k ∉ L.map (·.2) → L'.Perm ((x, k) :: L)) → Q b { s with heap := h' }) :
    wpAny (model P w) A (setAddHashed a (.ref x) (hN w k)) Q E s := by
  obtain ⟨o, ho, hex, hd⟩ := R.ob
  have hsl := R.size
  have hroom := R.room
  unfold setAddHashed
  refine wpAny_holding ?_
  rw [show (100000 : Nat) = 99999 + 1 from rfl, setAddHashedIn_succ]
  refine wpAny_bind (wpAny_setState_of ho hd R.fits ?_)
  dsimp only
  refine wp_if_neg (by simp [byScan, Value.scannable]) ?_
  try refine wpAny_bind (wpAny_pure ?_)
  refine wpAny_bind (searchN_at R hx hu hdk hq (fun hm => ?_) fun K hm hK hb => ?_)
  · dsimp only
    exact wpAny_pure (hQ false s.heap L es ep t (Heap.SameBut.refl a s.heap) R (fun _ => rfl) fun z => absurd hm z)
  · dsimp only
    refine wpAny_bind (wpAny_setState_of ho hd R.fits ?_)
    dsimp only
    obtain ⟨q1, q2, q3, q4, q5, q6, q7, q8, q9⟩ := R.tab.put hK hb
    generalize hpt : t.put (way t.mask (hN w k) K) = pt at q1 q3 q4 q5 q6 q7 q8 q9 ⊢
    obtain ⟨t1, p⟩ := pt
    dsimp only at q1 q3 q4 q5 q6 q7 q8 q9 ⊢
    subst q1
    have hin : (SetTable.insertAt es (SetTable.below t.place (way t.mask (hN w k) K)) (hN w k, Value.ref x)).toList = rowsN w (L.take (SetTable.below t.place (way t.mask (hN w k) K)) ++ (x, k) :: L.drop (SetTable.below t.place (way t.mask (hN w k) K))) := by
      rw [SetTable.toList_insertAt, rowsN_put, R.rows]
    generalize hpp : SetTable.below t.place (way t.mask (hN w k) K) = p at q2 q3 hin ⊢
    have pm := put_perm L p (x, k)
    have hlen : (L.take p ++ (x, k) :: L.drop p).length = L.length + 1 := pm.length_eq
    have hhs : (L.take p ++ (x, k) :: L.drop p).map (fun p => hN w p.2) = (L.map fun p => hN w p.2).take p ++ hN w k :: (L.map fun p => hN w p.2).drop p := by
      rw [List.map_append, List.map_cons, List.map_take, List.map_drop]
    rw [← hhs] at q3
    have nd1 : ((L.take p ++ (x, k) :: L.drop p).map (·.2)).Nodup := by
      refine (pm.map (·.2)).nodup_iff.mpr ?_
      rw [List.map_cons]
      exact List.nodup_cons.mpr ⟨hm, R.nd⟩
    have hes : (SetTable.insertAt es p (hN w k, Value.ref x)).size = L.length + 1 := by
      have q := congrArg List.length hin
      rw [len_rows, Array.length_toList, hlen] at q
      exact q
    generalize SetTable.insertAt es p (hN w k, Value.ref x) = es1 at hin hes ⊢
    generalize L.take p ++ (x, k) :: L.drop p = L1 at pm hlen q3 nd1 hin
    -- what follows, whatever the table is told of its hashes
    have go : ∀ t2 : SetTable, t2.mask = t1.mask → t2.place = t1.place → t2.dummies = t1.dummies → t2.led = t1.led → TabOk t2 (L1.map fun p => hN w p.2) → t2.tooFull = t1.tooFull →
        wpAny (model P w) A (do
          storeSet a es1 t2
          if !false && t2.tooFull then setRelay a (SetTable.grown (es.size + 1))
          return true) Q E s := by
      intro t2 m2 p2 d2 l2 T2 f2
      refine wpAny_bind (wpAny_storeSet_of ho hd ?_ (by rw [hes, sizeLine_eq]; omega))
      have sb : Heap.SameBut a s.heap (s.heap.update a (Obj.putSet es1 t2)) := Heap.SameBut.update ..
      have ho1 := store_at (es' := es1) (t' := t2) ho hd
      generalize s.heap.update a (Obj.putSet es1 t2) = h1 at sb ho1 ⊢
      have is1 : ∀ p ∈ L1, NestedIs h1 p.2 (.ref p.1) := fun p hp => by
        rcases List.mem_cons.mp (pm.mem_iff.mp hp) with e | hp
        · rw [e]; exact is_but hx ho hex.1 sb
        · exact is_but (R.is p hp) ho hex.1 sb
      have ld1 : w.params.followText "set-order" = true ∨ t2.led = true := by rw [l2, q5]; exact R.led
      by_cases hf : t2.tooFull = true
      · first
          | (refine wpAny_bind ?_; refine wp_if_pos (by simp [hf]) ?_)
          | (refine wp_if_pos (by simp [hf]) ?_; refine wpAny_bind ?_)
        have hfull : (L.length + 1) * 5 ≥ t1.mask * 3 := by
          have q := hf
          rw [f2] at q
          unfold SetTable.tooFull at q
          rw [decide_eq_true_eq, q9, List.length_map] at q
          exact q
        rw [hsl]
        have hsz1 : t2.place.size = es1.size := by
          have q := q3.sz
          rw [List.length_map, hlen] at q
          rw [p2, q, hes]
        have two : (t.mask = 7 ∧ L.length = 4) ∨ (t.mask = 31 ∧ L.length = 18) := by
          rcases R.tab.mok with e | e | e
          · left; rw [q4, e] at hfull; rw [e] at hroom; exact ⟨e, by omega⟩
          · right; rw [q4, e] at hfull; rw [e] at hroom; exact ⟨e, by omega⟩
          · exfalso; rw [q4, e] at hfull; omega
        have goM : ∀ M, SetTable.sizeAbove (SetTable.grown (L.length + 1)) - 1 = M → MaskOk M → SetTable.sizeAbove (SetTable.grown (L.length + 1)) ≤ 128 → (L.length + 1) * 5 < M * 3 →
            wpAny (model P w) A (setRelay a (SetTable.grown (L.length + 1))) (fun _ s' => wpAny (model P w) A (pure true) Q E s') E { s with heap := h1 } := fun M h1' h2' h3' h4' => by
          refine relayN (s := { s with heap := h1 }) ho1 ⟨hex.1, hex.2.1, hex.2.2⟩ rfl hin hsz1 T2.dm (by rw [hes, m2, q4]; rcases two with ⟨e, e2⟩ | ⟨e, e2⟩ <;> omega) nd1 is1 ld1 (by rw [hlen]; exact hfew) h1' h2' h3' (by rw [hlen]; exact h4') ?_
          intro h2 L2 es2 ep2 t2 sb2 R2 pm2
          exact wpAny_pure (hQ true h2 L2 es2 ep2 t2 (sb.trans sb2) R2 (fun z => absurd z hm) fun _ => pm2.trans pm)
        rcases two with ⟨_, e2⟩ | ⟨_, e2⟩
        · refine goM 31 (by rw [e2, size_20]) (.inr (.inl rfl)) (by rw [e2, size_20]; decide) (by omega)
        · refine goM 127 (by rw [e2, size_76]) (.inr (.inr rfl)) (by rw [e2, size_76]; decide) (by omega)
      · first
          | refine wp_if_neg (by simp [hf]) ?_
          | (refine wpAny_bind ?_; refine wp_if_neg (by simp [hf]) ?_; refine wpAny_pure ?_)
        refine wpAny_pure (hQ true h1 L1 es1 (ep + 1) t2 sb ⟨⟨_, ho1, ⟨hex.1, hex.2.1, hex.2.2⟩, rfl⟩, hin, T2, nd1, is1, ld1, ?_, by rw [hlen]; exact hfew⟩ (fun z => absurd z hm) fun _ => pm)
        have q := hf
        rw [f2] at q
        unfold SetTable.tooFull at q
        rw [decide_eq_true_eq, q9, List.length_map] at q
        rw [hlen, m2]
        omega
    have hT : ∀ b : Bool, TabOk (if b = true then t1 else { t1 with plain := false }) (L1.map fun p => hN w p.2) := fun b => by
      cases b
      · exact ⟨q3.ris, q3.dm, q3.sz, q3.mok, q3.bd, q3.reach⟩
      · exact q3
    have both : ∀ b : Bool, wpAny (model P w) A (do
          storeSet a es1 (if b = true then t1 else { t1 with plain := false })
          if !false && (if b = true then t1 else { t1 with plain := false }).tooFull then setRelay a (SetTable.grown (es.size + 1))
          return true) Q E s := fun b => by
      have T := hT b
      cases b
      · exact go _ rfl rfl rfl rfl T rfl
      · exact go _ rfl rfl rfl rfl T rfl
    by_cases hp : t1.plain = true
    · refine wp_if_pos hp (wpAny_bind (hashBy_nd 8 k _ _ hx fun b => ?_))
      exact both b
    · refine wp_if_neg hp (wpAny_bind (wpAny_pure ?_))
      exact both true
end
/-! ### a set made of a tuple -/
/-- what the set has got from the first i items -/
structure GotN (ks : List (Addr × ND)) (i : Nat) (L : List (Addr × ND)) : Prop where
  sub : ∀ p ∈ L, p ∈ ks.take i
  all : ∀ p ∈ ks.take i, p.2 ∈ L.map (·.2)
  len : L.length ≤ i
theorem GotN.zero (ks : List (Addr × ND)) : GotN ks 0 [] := ⟨fun p h => (by cases h), fun p h => (by simp at h), Nat.le_refl _⟩
theorem GotN.same {ks L : List (Addr × ND)} {i : Nat} {x : Addr × ND} (g : GotN ks i L) (h : ks[i]? = some x) (hm : x.2 ∈ L.map (·.2)) : GotN ks (i + 1) L := by
  refine ⟨fun p hp => ?_, fun p hp => ?_, Nat.le_succ_of_le g.len⟩
  · rw [take_next h]
    exact List.mem_append_left _ (g.sub p hp)
  · rw [take_next h] at hp
    rcases List.mem_append.mp hp with z | z
    · exact g.all p z
    · rw [List.mem_singleton.mp z]; exact hm
theorem GotN.more {ks L L' : List (Addr × ND)} {i : Nat} {x : Addr × ND} (g : GotN ks i L) (h : ks[i]? = some x) (pm : L'.Perm (x :: L)) : GotN ks (i + 1) L' := by
  refine ⟨fun p hp => ?_, fun p hp => ?_, ?_⟩
  · rw [take_next h]
    rcases List.mem_cons.mp (pm.mem_iff.mp hp) with e | z
    · rw [e]; exact List.mem_append_right _ (List.mem_singleton.mpr rfl)
    · exact List.mem_append_left _ (g.sub p z)
  · rw [(pm.map (·.2)).mem_iff, List.map_cons]
    rw [take_next h] at hp
    rcases List.mem_append.mp hp with z | z
    · exact List.mem_cons_of_mem _ (g.all p z)
    · rw [List.mem_singleton.mp z]; exact List.mem_cons_self
  · rw [pm.length_eq, List.length_cons]
    exact Nat.succ_le_succ g.len
section
variable {P : Program} {w : World} {A : Around} {E : Value → Shared → Prop} {s : Shared}
theorem SetN.keep {h h' : Heap} {a : Addr} {L : List (Addr × ND)} {es : Array (Int × Value)} {ep : Nat} {t : SetTable} (R : SetN w h a L es ep t) (ha : ∀ o, h.get? a = some o → h'.get? a = some o) (ht : ∀ p ∈ L, NestedIs h' p.2 (.ref p.1)) : SetN w h' a L es ep t := by
  obtain ⟨o, ho, r⟩ := R.ob
  exact ⟨⟨o, ha o ho, r⟩, R.rows, R.tab, R.nd, ht, R.led, R.room, R.few⟩
theorem setN_fresh {h : Heap} {a : Addr} (ho : h.get? a = some { cls := .type "set", dict := none, data := .set #[] 0 (.fresh 0 0 (!w.params.followText "set-order")) }) : SetN w h a [] #[] 0 (.fresh 0 0 (!w.params.followText "set-order")) where
  ob := ⟨_, ho, ⟨rfl, rfl, rfl⟩, rfl⟩
  rows := rfl
  tab := ⟨List.Pairwise.nil, rfl, rfl, .inl rfl, fun x hx => (by cases hx), fun i h j hi => (by simp at hi)⟩
  nd := List.nodup_nil
  is := fun p hp => (by cases hp)
  led := by
    show _ ∨ (!w.params.followText "set-order") = true
    cases w.params.followText "set-order"
    · exact .inr rfl
    · exact .inl rfl
  room := by
    show 0 * 5 < 7 * 3
    decide
  few := by
    show 0 < 64
    decide
/-- which elements may stand in one set: any two are one object, or neither is too deep -/
def Shal (ks : List (Addr × ND)) : Prop := (∀ p ∈ ks, p.2.depth ≤ 50) ∧ ∀ p ∈ ks, ∀ q ∈ ks, p.1 = q.1 ∨ (p.2.depth ≤ 8 ∧ q.2.depth ≤ 8)
theorem updateN {I : Addr} {fp wr : List Addr} {G : Array GenState → Array GenState → Prop} {n : Nat} {Pv : Nat → Value → Prop} {St : Nat → Shared → Prop} {R : Result → Shared → Prop}
    (W : WalksS P w A.in1 I fp wr G n Pv St) (S : Addr) (hSf : S ∉ fp) (ks : List (Addr × ND)) (hn : n = ks.length) (hfew : ks.length < 64) (hsh : Shal ks) (hval : ∀ i v, Pv i v → ∃ p, ks[i]? = some p ∧ v = .ref p.1)
    (h0 : Heap) (hk : ∀ p ∈ ks, NestedIs h0 p.2 (.ref p.1)) (hS0 : h0.get? S = none) (hw0 : ∀ b ∈ wr, h0.get? b = none) (hu : A.in1.units + 60 < cLine) :
    ∀ (k i : Nat) (s : Shared), n - i = k → i ≤ n → St i s → (∀ b o, h0.get? b = some o → s.heap.get? b = some o) → (∃ L es ep t, SetN w s.heap S L es ep t ∧ GotN ks i L) →
      (∀ s' L es ep t, Moved (S :: wr) G s s' → SetN w s'.heap S L es ep t → GotN ks n L → (∀ b o, h0.get? b = some o → s'.heap.get? b = some o) → R (.ok (.ret .none)) s') →
      codeAny (model P w) A (.builtin "set.update.loop" ⟨[.ref S, .ref I], []⟩) R s := by
  have hSw : S ∉ wr := fun h => hSf (W.sub _ h)
  have hsub : ∀ b ∈ wr, b ∈ S :: wr := fun b hb => List.mem_cons_of_mem _ hb
  have keepM : ∀ {s s' : Shared}, Moved wr G s s' → (∀ b o, h0.get? b = some o → s.heap.get? b = some o) → ∀ b o, h0.get? b = some o → s'.heap.get? b = some o := fun hm hkp b o e =>
    hm.heap b o (fun hb => by rw [hw0 b hb] at e; cases e) (hkp b o e)
  have isK : ∀ {h' : Heap} {p : Addr × ND}, p ∈ ks → (∀ b o, h0.get? b = some o → h'.get? b = some o) → NestedIs h' p.2 (.ref p.1) := fun hp hkp => NestedIs.at (fun b o _ _ e _ => hkp b o e) _ _ (hk _ hp)
  intro k
  induction k with
  | zero =>
    intro i s hk' hi hst hkp ⟨L, es, ep, t, hS, g⟩ hR
    have hin : i = n := by omega
    subst hin
    refine codeAny_builtin F.entry_set_update_loop ?_
    rw [Around.under_plainId F.plain_set_update_loop _]
    show wpAny _ A.in1 (pyNext (.ref I) >>= _) _ _ s
    refine wpAny_bind (W.done s _ _ hst fun s' hm => ?_)
    show wpAny _ A.in1 (ret Value.none) _ _ s'
    have hkp' := keepM hm hkp
    exact wpAny_pure (hR s' L es ep t (hm.mono hsub) (hS.keep (fun o e => hm.heap S o hSw e) fun p hp => isK (List.mem_of_mem_take (g.sub p hp)) hkp') g hkp')
  | succ k ih =>
    intro i s hk' hi hst hkp ⟨L, es, ep, t, hS, g⟩ hR
    have hlt : i < n := by omega
    refine codeAny_builtin F.entry_set_update_loop ?_
    rw [Around.under_plainId F.plain_set_update_loop _]
    show wpAny _ A.in1 (pyNext (.ref I) >>= _) _ _ s
    refine wpAny_bind (W.item i s _ _ hlt hst fun v s' hP hst' hm => ?_)
    obtain ⟨p, hp, rfl⟩ := hval i v hP
    have hpm : p ∈ ks := List.mem_of_getElem? hp
    have hkp' := keepM hm hkp
    have sub : ∀ q ∈ L, q ∈ ks := fun q hq => List.mem_of_mem_take (g.sub q hq)
    have hS' : SetN w s'.heap S L es ep t := hS.keep (fun o e => hm.heap S o hSw e) fun q hq => isK (sub q hq) hkp'
    have hx : NestedIs s'.heap p.2 (.ref p.1) := isK hpm hkp'
    have hdp := hsh.1 p hpm
    show wpAny _ A.in1 (holding [Value.ref p.1] (setAdd S (.ref p.1)) >>= _) _ _ s'
    refine wpAny_bind (wpAny_holding ?_)
    unfold setAdd
    refine wpAny_holding ?_
    refine wpAny_bind (pyHash_key p.2 _ _ _ _ hx (by omega) ?_)
    refine addN (s := { s' with toks := s'.toks + p.2.draws }) hS' hx hu hdp (fun q hq => hsh.2 p hpm q (sub q hq)) (by have := g.len; omega) fun b h' L' es' ep' t' hsb hS2 c1 c2 => ?_
    have g' : GotN ks (i + 1) L' := by
      rcases Classical.em (p.2 ∈ L.map (·.2)) with c | c
      · rw [c1 c]; exact g.same hp c
      · exact g.more hp (c2 c)
    have hkp2 : ∀ b o, h0.get? b = some o → h'.get? b = some o := fun b o e => (hsb.2 b (fun z => by rw [z, hS0] at e; cases e)).trans (hkp' b o e)
    refine wpAny_pure ⟨plainId_quiet F.plain_set_update_loop _, ih (i + 1) _ (by omega) hlt (W.frame _ s' _ _ hst' (Nat.le_add_right _ _) fun b hb o e => ?_) hkp2 ⟨L', es', ep', t', hS2, g'⟩ fun s'' L2 es2 ep2 t2 hm'' hS'' g'' hkp'' => ?_⟩
    · rw [hsb.2 b (fun h : b = S => hSf (by rw [← h]; exact hb))]; exact e
    · refine hR s'' L2 es2 ep2 t2 (Moved.trans W.gtrans ((hm.mono hsub).then_heap (Nat.le_add_right _ _) fun b o hb e => ?_) hm'') hS'' g'' hkp''
      rw [hsb.2 b (fun h : b = S => hb (by rw [h]; exact List.mem_cons_self))]; exact e
end
end TC

namespace TC
open PySem PySem.Spec PyProof.Rows L2
section
variable {P : Program} {w : World} {A : Around} {E : Value → Shared → Prop} {s : Shared}
def mtSet (w : World) : Obj := { cls := .type "set", dict := none, data := .set #[] 0 (.fresh 0 0 (!w.params.followText "set-order")) }
/-- set(t), t a tuple of nested data -/
theorem call_setN {l : Addr} {items : Array Value} (ks : List (Addr × ND)) {Q : Value → Shared → Prop} (hh : A.handled = none) (hl : s.heap.IsTuple l items) (hit : items.toList = ks.map fun p => Value.ref p.1)
    (hk : ∀ p ∈ ks, NestedIs s.heap p.2 (.ref p.1)) (hsh : Shal ks) (hfew : ks.length < 64) (hu : A.units + 63 < cLine)
    (h : ∀ (h' : Heap) (tk : Nat) L es ep t, SetN w h' s.heap.objs.size L es ep t → GotN ks ks.length L → (∀ b o, s.heap.get? b = some o → h'.get? b = some o) → Q (.ref s.heap.objs.size) { s with heap := h', toks := tk }) :
    wpAny (model P w) A (call (.type "set") [.ref l]) Q E s := by
  have hisz : items.size = ks.length := by
    have q := congrArg List.length hit
    rw [Array.length_toList, List.length_map] at q
    exact q
  obtain ⟨c, tl, hmro⟩ := F.called_set.mro
  have hmade := F.called_set.made
  have hsub := F.called_set.sub
  refine wpAny_call (codeAny_of_tree ?_)
  show wpAny _ _ (callAny (.type "set") _) _ _ _
  refine wpAny_pure ⟨Code.quiet_builtin _ (by decide +kernel), codeAny_builtin F.entry_type_call ?_⟩
  rw [Around.under_plain (weight_type_call_type "set" [.ref l] []) rfl]
  have h1 := F.called_set.notType
  have h2 := F.called_set.canCreate
  have hct := F.typeCall_set_1 (.ref l)
  repeat (any_goals (first | assumption | wp_step))
  refine codeAny_mono (code_set_led1 (.ref l) (E := E) (Q₁ := fun obj t => obj = .ref s.heap.objs.size ∧ t = { s with heap := s.heap.push (mtSet w) }) ⟨rfl, rfl⟩) fun r t hr => ?_
  cases r with
  | error e => exact hr
  | ok fl =>
    cases fl with
    | ret obj =>
      obtain ⟨rfl, rfl⟩ := hr
      have hS : (s.heap.push (mtSet w)).get? s.heap.objs.size = some (mtSet w) := Heap.get?_push_size _ rfl
      have hT : Shared.TypeIs { s with heap := s.heap.push (mtSet w) } (.ref s.heap.objs.size) "set" := ⟨_, hS, rfl⟩
      have hli := F.called_set.init.lookup
      have hbi := F.called_set.init.bind (.ref s.heap.objs.size)
      repeat (any_goals (first | assumption | wp_step))
      refine codeAny_mono (codeAny_call_builtin (R := wants (fun r t => r = .none ∧ ∃ h' tk L es ep tb, t = { s with heap := h', toks := tk } ∧ SetN w h' s.heap.objs.size L es ep tb ∧ GotN ks ks.length L ∧
          (∀ b o, s.heap.get? b = some o → h'.get? b = some o)) E) F.called_set.init.plain F.entry_set_init (check_set_init_1 hT ?_)) fun r₂ t₂ hr₂ => ?_
      · obtain ⟨ol, hol, hcl, nl, hdl⟩ := hl
        obtain ⟨ocls, odict, odata, oslots⟩ := ol
        simp only at hcl hdl
        subst hcl; subst hdl
        have hol' : (s.heap.push (mtSet w)).get? l = some { cls := .type "tuple", dict := odict, data := .seq items nl, slots := oslots } := Heap.get?_push_of_some _ hol
        have hsls := F.sub_tuple_set
        have hslf := F.sub_tuple_frozenset
        have hne : (Value.type "tuple" == Value.type "dict") = false := by decide
        have hl1 : (s.heap.push (mtSet w)).IsTuple l items := ⟨_, hol', rfl, nl, rfl⟩
        unfold Builtin.«set.__init__» noKeywords Builtin.Frozenset.updateFrom
        generalize hPI : pyIter = PI
        wp_walk
        subst hPI
        refine wpAny_pyIter_tuple hl1 ?_
        refine wpAny_bind (wpAny_runValue ?_)
        have hlS : l < s.heap.objs.size := Heap.lt_size hol
        have hh3 : A.in1.in1.in1.handled = none := by simp [hh]
        have hz1 : (s.heap.push (mtSet w)).objs.size = s.heap.objs.size + 1 := Heap.size_push ..
        have hneI : l ≠ (s.heap.push (mtSet w)).objs.size := by
          rw [hz1]; exact Nat.ne_of_lt (Nat.lt_succ_of_lt hlS)
        have hSf : s.heap.objs.size ∉ [(s.heap.push (mtSet w)).objs.size, l] := by
          rw [hz1]
          intro q
          rcases List.mem_cons.mp q with q | q
          · exact absurd q (Nat.ne_of_lt (Nat.lt_succ_self _))
          · exact absurd (List.mem_singleton.mp q) (Nat.ne_of_gt hlS)
        have hval : ∀ (i : Nat) (v : Value), items[i]? = some v → ∃ p, ks[i]? = some p ∧ v = .ref p.1 := fun i v hv => by
          have q : items.toList[i]? = some v := by rw [Array.getElem?_toList]; exact hv
          rw [hit, List.getElem?_map] at q
          obtain ⟨p, hp, e⟩ := Option.map_eq_some_iff.mp q
          exact ⟨p, hp, e.symm⟩
        have none_of : ∀ b, s.heap.objs.size ≤ b → s.heap.get? b = none := fun b hb => by
          cases q : s.heap.get? b with
          | none => rfl
          | some o => exact absurd (Nat.lt_of_lt_of_le (Heap.lt_size q) hb) (Nat.lt_irrefl _)
        refine updateN ((Walks.tuple hh3 _ l hneI items).toS) s.heap.objs.size
          hSf ks hisz hfew hsh hval s.heap hk (none_of _ (Nat.le_refl _)) (fun b hb => none_of b (by
            rw [List.mem_singleton.mp hb, hz1]
            exact Nat.le_succ _)) (by show A.units + 1 + 1 + 1 + 60 < cLine; omega) (items.size - 0) 0 _ (by omega) (Nat.zero_le _)
          ⟨⟨_, Heap.get?_push_size _ rfl, rfl, rfl⟩, (hl1.push _)⟩ (fun b o e => Heap.get?_push_of_some _ (Heap.get?_push_of_some _ e)) ?hS0 ?hR
        case hS0 =>
          exact ⟨[], #[], 0, _, setN_fresh (Heap.get?_push_of_some _ hS), GotN.zero ks⟩
        case hR =>
          intro s' L es ep t hm hS' g' hkp
          obtain ⟨h', g2, d', tk', os'⟩ := s'
          have eg : g2 = s.gens := hm.gens
          have ed : d' = s.drawn := hm.drawn
          have eo : os' = s.os := hm.os
          subst eg; subst ed; subst eo
          show wpAny _ _ _ _ _ _
          refine wpAny_pure ?_
          show wpAny _ _ (ret Value.none) _ _ _
          rw [hisz] at g'
          exact wpAny_pure ⟨rfl, h', tk', L, es, ep, t, rfl, hS', g', hkp⟩
      · cases r₂ with
        | error e => exact hr₂
        | ok fl₂ =>
          cases fl₂ with
          | ret r =>
            obtain ⟨rfl, h', tk, L, es, ep, t, rfl, hS', g', hk'⟩ := hr₂
            repeat (any_goals (first | assumption | wp_step))
            exact h _ _ _ _ _ _ hS' g' hk'
          | _ => exact hr₂.elim
    | _ => exact hr.elim
/-- the addresses of the rows, told back -/
theorem refs_back {L : List (Addr × ND)} : ∀ vs : List Value, (∀ v ∈ vs, ∃ q ∈ L, v = Value.ref q.1) → ∃ L1 : List (Addr × ND), vs = L1.map (fun q => Value.ref q.1) ∧ ∀ q ∈ L1, q ∈ L
  | [], _ => ⟨[], rfl, fun q hq => (by cases hq)⟩
  | v :: vs, hv => by
    obtain ⟨q, hq, e⟩ := hv v List.mem_cons_self
    obtain ⟨L1, e1, hs⟩ := refs_back vs fun u hu => hv u (List.mem_cons_of_mem _ hu)
    refine ⟨q :: L1, by rw [List.map_cons, e, e1], fun r hr => ?_⟩
    rcases List.mem_cons.mp hr with z | z
    · rw [z]; exact hq
    · exact hs r z
/-- sorted(set): a new list of the elements, in order -/
theorem sorted_setN {a : Addr} {L : List (Addr × ND)} {es : Array (Int × Value)} {ep : Nat} {t : SetTable} {Q : Value → Shared → Prop} (R : SetN w s.heap a L es ep t) (S : Srtb (L.map (·.2))) (hh : A.handled = none) (hu : A.units + 60 < cLine)
    (hQ : ∀ s' p (c : Nat) (L' : List (Addr × ND)), (∀ b o, s.heap.get? b = some o → s'.heap.get? b = some o) → s'.gens = s.gens → s'.os = s.os → s.heap.objs.size ≤ p →
      s'.heap.get? p = some (seqObj "list" (L'.map fun q => Value.ref q.1).toArray c) → L'.Perm L → (L'.map (·.2)).Pairwise (fun x y => ltD x y = true) → Q (.ref p) s') :
    wpAny (model P w) A (call (.builtin "sorted") [.ref a]) Q E s := by
  obtain ⟨o, ho, hex, hd⟩ := R.ob
  have hsz := R.size
  have hfew := R.few
  refine Calls.call_function_entry kind_sorted plain_sorted entry_sorted (args_sorted1 _) ?_
  unfold Builtin.«sorted»
  refine wpAny_bind (m := checkCount "sorted" 1 1 _) (wpAny_pure ?_)
  refine wpAny_bind (collect_set (A := A.in1) hh ⟨o, ho, hex.1, hd⟩ R.fits (by unfold scanBound; omega) R.tab.ris R.led fun s1 vs k1 hz g1 o1 pm => ?_)
  have hes : es.toList.map (·.2) = L.map fun q => Value.ref q.1 := by
    rw [R.rows]
    unfold rowsN
    rw [List.map_map] <;> rfl
  rw [hes] at pm
  have hvl : vs.length = L.length := by rw [pm.length_eq, List.length_map]
  have hin : ∀ v ∈ vs, ∃ q ∈ L, v = Value.ref q.1 := fun v hv => by
    obtain ⟨q, hq, e⟩ := List.mem_map.mp (pm.mem_iff.mp hv)
    exact ⟨q, hq, e.symm⟩
  refine wpAny_bind (wpAny_newList ?_ (by rw [sizeLine_eq]; omega))
  have hoL : (s1.heap.push (seqObj "list" vs.toArray 0)).get? s1.heap.objs.size = some (seqObj "list" vs.toArray 0) := Heap.get?_push_size _ rfl
  have isq : ∀ q ∈ L, NestedIs (s1.heap.push (seqObj "list" vs.toArray 0)) q.2 (.ref q.1) := fun q hq => NestedIs.at (fun b u _ _ e _ => Heap.get?_push_of_some _ (k1 b u e)) _ _ (R.is q hq)
  have hv : ∀ v ∈ vs, ∃ d ∈ L.map (·.2), NestedIs (s1.heap.push (seqObj "list" vs.toArray 0)) d v := fun v hm => by
    obtain ⟨q, hq, e⟩ := hin v hm
    exact ⟨q.2, List.mem_map.mpr ⟨q, hq, rfl⟩, by rw [e]; exact isq q hq⟩
  refine wpAny_bind (wpAny_holding (wpAny_call_entry slot_list_sort ⟨_, hoL, rfl⟩ entry_list_sort (SrtO.list_sort_ord (s := { s1 with heap := s1.heap.push (seqObj "list" vs.toArray 0) }) (swo_dat (s1.heap.push (seqObj "list" vs.toArray 0))) hoL (by rw [sizeLine_eq]; omega)
    (fun h2 => sortable_nd S (by omega) hv (by show A.units + 1 + 1 + 41 < cLine; omega) fun o e => by
      have e' : some o = some (seqObj "list" vs.toArray 0) := e.symm.trans hoL
      cases e'
      rfl) fun out hs hb => ⟨_, rfl, ?_⟩) (args_list_sort _)))
  have pmo := hb.perm.trans pm
  obtain ⟨L', e', hs'⟩ := refs_back (L := L) out fun v hm => hin v (hb.perm.mem_iff.mp hm)
  have one : ∀ q ∈ L, ∀ r ∈ L, q.1 = r.1 → q = r := fun q hq r hr e => by
    have a1 := R.is q hq
    have a2 := R.is r hr
    rw [e] at a1
    exact Prod.ext e (NestedIs.inj _ _ _ a1 a2)
  have nL : L.Nodup := nodup_of_map R.nd
  have nref : (L.map fun q => Value.ref q.1).Nodup := by
    refine List.pairwise_map.mpr (List.Pairwise.imp_of_mem (fun {q r} hq hr hne e => ?_) nL)
    injection e with e
    exact hne (one q hq r hr e)
  rw [e'] at pmo hs
  have n1 : L'.Nodup := nodup_of_map (pmo.nodup_iff.mpr nref)
  have pL : L'.Perm L := (List.perm_ext_iff_of_nodup n1 nL).mpr fun q => ⟨hs' q, fun hq => by
    have hm : Value.ref q.1 ∈ L'.map (fun q => Value.ref q.1) := pmo.mem_iff.mpr (List.mem_map.mpr ⟨q, hq, rfl⟩)
    obtain ⟨r, hr, e⟩ := List.mem_map.mp hm
    injection e with e
    rw [← one r (hs' r hr) q hq e]
    exact hr⟩
  have pw : (L'.map (·.2)).Pairwise (fun x y => ltD x y = true) := by
    have nd' : (L'.map (·.2)).Nodup := (pL.map (·.2)).nodup_iff.mpr R.nd
    have hs3 : List.Pairwise (fun v u => ltD (datOf _ u) (datOf _ v) = false) (L'.map fun q => Value.ref q.1) := hs
    rw [List.pairwise_map] at hs3 ⊢
    have nd2 := List.pairwise_map.mp nd'
    refine List.Pairwise.imp_of_mem (fun {q r} hq hr hle => ?_) (hs3.and nd2)
    obtain ⟨h3, h4⟩ := hle
    rw [datOf_eq (isq q (hs' q hq)), datOf_eq (isq r (hs' r hr))] at h3
    rcases ltD_tri q.2 r.2 with z | z | z
    · exact z
    · exact absurd z h4
    · rw [z] at h3
      cases h3
  obtain ⟨c, hc⟩ := sortedHeap_at (vs := vs) (out := out.toArray) hoL
  refine wpAny_pure ⟨_, rfl, hQ _ s1.heap.objs.size c L' (fun b u e => ?_) g1 o1 hz (by rw [← e']; exact hc) pL pw⟩
  have q := k1 b u e
  have hlt := Heap.lt_size q
  show (sortedHeap (s1.heap.push (seqObj "list" vs.toArray 0)) s1.heap.objs.size vs out.toArray).get? b = some u
  rw [sortedHeap_old (Nat.ne_of_lt hlt) (by rw [size_push']; exact Nat.lt_succ_of_lt hlt)]
  exact Heap.get?_push_of_some _ q
end
end TC

namespace TC
open PySem PySem.Spec PyProof.Rows L2
/-! ### nested data over the abstract heap -/
mutual
/-- v is the nested tuple d -/
inductive Dn (K : PySem.W.Frag) (H : Hp) : V → ND → Prop
  | non : Dn K H .non .none
  | int (i : Int) : Dn K H (.int i) (.num i)
  | str (x : Str) (h : PyData.strOk x = true) : Dn K H (.str x) (.text x)
  | tup {a : Addr} {xs : List V} {ds : List ND} : SqT K H a xs → DnAll K H xs ds → Dn K H (.ref a) (.tup ds)
inductive DnAll (K : PySem.W.Frag) (H : Hp) : List V → List ND → Prop
  | nil : DnAll K H [] []
  | cons {v : V} {vs : List V} {d : ND} {ds : List ND} : Dn K H v d → DnAll K H vs ds → DnAll K H (v :: vs) (d :: ds)
end
/-- the tuples stay -/
def Tk (H H' : Hp) : Prop := ∀ b xs, Rd H b (.tup xs) → Rd H' b (.tup xs)
theorem Tk.refl (H : Hp) : Tk H H := fun _ _ h => h
theorem Tk.trans {H H1 H2 : Hp} (a : Tk H H1) (b : Tk H1 H2) : Tk H H2 := fun c xs h => b c xs (a c xs h)
theorem Tk.same {H H' : Hp} (e : Same H H') : Tk H H' := fun b xs h => h.elim (fun h => .inl (e _ _ h)) fun ⟨o, h⟩ => .inr ⟨o, e _ _ h⟩
theorem Tk.new {H : Hp} {p : Addr} {o : HO} (h : H p = none) : Tk H (upd H p o) := Tk.same fun b u q => by rw [upd_ne (ne_of_none q h)]; exact q
/-- a thing that is no tuple is changed -/
theorem Tk.put {H : Hp} {p : Addr} {o u : HO} (h : H p = some u) (h1 : ∀ xs, u ≠ .tup xs) (h2 : ∀ ob xs, u ≠ .frz ob (.tup xs)) : Tk H (upd H p o) := fun b xs q => by
  have hb : b ≠ p := by
    rintro rfl
    rcases q with q | ⟨ob, q⟩
    · rw [h] at q; exact h1 xs (Option.some.inj q)
    · rw [h] at q; exact h2 ob xs (Option.some.inj q)
  unfold Rd
  rw [upd_ne hb]
  exact q
theorem Tk.lst {H : Hp} {p : Addr} {o : HO} {xs : List V} (h : H p = some (.lst xs)) : Tk H (upd H p o) := Tk.put h (fun _ z => by cases z) fun _ _ z => by cases z
theorem Tk.dK {H : Hp} {p : Addr} {o : HO} {xs : List (Key × V)} (h : H p = some (.dK xs)) : Tk H (upd H p o) := Tk.put h (fun _ z => by cases z) fun _ _ z => by cases z
theorem Tk.sqt {K : PySem.W.Frag} {H H' : Hp} (t : Tk H H') {a : Addr} {xs : List V} (h : SqT K H a xs) : SqT K H' a xs := h.elim (fun h => .inl (t a xs h)) .inr
mutual
theorem Dn.mono {K : PySem.W.Frag} {H H' : Hp} (t : Tk H H') : ∀ (d : ND) (v : V), Dn K H v d → Dn K H' v d
  | .none, _, h => by cases h; exact .non
  | .num i, _, h => by cases h; exact .int i
  | .text x, _, h => by
    cases h with
    | str _ ok => exact .str x ok
  | .tup ds, _, h => by
    cases h with
    | tup hs ha => exact .tup (t.sqt hs) (DnAll.mono t ds _ ha)
theorem DnAll.mono {K : PySem.W.Frag} {H H' : Hp} (t : Tk H H') : ∀ (ds : List ND) (vs : List V), DnAll K H vs ds → DnAll K H' vs ds
  | [], _, h => by cases h; exact .nil
  | d :: ds, _, h => by
    cases h with
    | cons h1 h2 => exact .cons (Dn.mono t d _ h1) (DnAll.mono t ds _ h2)
end
theorem Dn.tk {K : PySem.W.Frag} {H H' : Hp} {d : ND} {v : V} (h : Dn K H v d) (t : Tk H H') : Dn K H' v d := Dn.mono t d v h
theorem DnAll.len {K : PySem.W.Frag} {H : Hp} : ∀ {vs : List V} {ds : List ND}, DnAll K H vs ds → vs.length = ds.length
  | _, _, .nil => rfl
  | _, _, .cons _ t => by rw [List.length_cons, List.length_cons, DnAll.len t]
theorem DnAll.mem {K : PySem.W.Frag} {H : Hp} : ∀ {vs : List V} {ds : List ND}, DnAll K H vs ds → ∀ v ∈ vs, ∃ d ∈ ds, Dn K H v d
  | _, _, .cons h t, v, hv => by
    rcases List.mem_cons.mp hv with e | hv
    · exact ⟨_, List.mem_cons_self, e ▸ h⟩
    · obtain ⟨d, hd, q⟩ := DnAll.mem t v hv
      exact ⟨d, List.mem_cons_of_mem _ hd, q⟩
mutual
theorem Dn.dp {K : PySem.W.Frag} {H : Hp} : ∀ (d : ND) (v : V), Dn K H v d → Dp K H v d.data
  | .none, _, h => by cases h; simp only [NestedKey.data]; exact .non
  | .num i, _, h => by cases h; simp only [NestedKey.data]; exact .int i
  | .text x, _, h => by
    cases h with
    | str _ ok => simp only [NestedKey.data]; exact .str x
  | .tup ds, _, h => by
    cases h with
    | tup hs ha => simp only [NestedKey.data]; exact .tup hs (DnAll.dp ds _ ha)
theorem DnAll.dp {K : PySem.W.Frag} {H : Hp} : ∀ (ds : List ND) (vs : List V), DnAll K H vs ds → DpAll K H vs (NestedKey.datas ds)
  | [], _, h => by cases h; simp only [NestedKey.datas]; exact .nil
  | d :: ds, _, h => by
    cases h with
    | cons h1 h2 => simp only [NestedKey.datas]; exact .cons (Dn.dp d _ h1) (DnAll.dp ds _ h2)
end
mutual
theorem Dn.lay {K : PySem.W.Frag} {H : Hp} : ∀ (d : ND) (v : V), Dn K H v d → d.data.canLay0 = true
  | .none, _, _ => by simp [NestedKey.data, PyData.canLay0]
  | .num i, _, _ => by simp [NestedKey.data, PyData.canLay0]
  | .text x, _, h => by
    cases h with
    | str _ ok => simp only [NestedKey.data, PyData.canLay0]; exact ok
  | .tup ds, _, h => by
    cases h with
    | tup hs ha => simp only [NestedKey.data, PyData.canLay0]; exact DnAll.lay ds _ ha
theorem DnAll.lay {K : PySem.W.Frag} {H : Hp} : ∀ (ds : List ND) (vs : List V), DnAll K H vs ds → PyData.canLayAll0 (NestedKey.datas ds) = true
  | [], _, _ => by simp [NestedKey.datas, PyData.canLayAll0]
  | d :: ds, _, h => by
    cases h with
    | cons h1 h2 => simp only [NestedKey.datas, PyData.canLayAll0, Dn.lay d _ h1, DnAll.lay ds _ h2, Bool.and_self]
end
mutual
theorem dep_nd : ∀ d : ND, d.data.depth = d.depth
  | .none => by simp [NestedKey.data, NestedKey.depth, PyData.depth]
  | .num i => by simp [NestedKey.data, NestedKey.depth, PyData.depth]
  | .text x => by simp [NestedKey.data, NestedKey.depth, PyData.depth]
  | .tup ds => by
    have h := dep_nds ds
    simp only [NestedKey.data, NestedKey.depth, PyData.depth]
    omega
theorem dep_nds : ∀ ds : List ND, PyData.depthAll (NestedKey.datas ds) = NestedKey.depthAll ds
  | [] => by simp [NestedKey.datas, NestedKey.depthAll, PyData.depthAll]
  | d :: ds => by simp only [NestedKey.datas, NestedKey.depthAll, PyData.depthAll, dep_nd d, dep_nds ds]
end
theorem Dn.shaped {K : PySem.W.Frag} {H : Hp} {d : ND} {v : V} (r : Dn K H v d) (h : d.depth ≤ 64) : SeqAt.shaped d.data = true := by
  show (d.data.canLay0 && decide (d.data.depth ≤ 64)) = true
  rw [Dn.lay d v r, dep_nd, decide_eq_true h]
  rfl
theorem DnAll.shaped {K : PySem.W.Frag} {H : Hp} {ds : List ND} {vs : List V} (r : DnAll K H vs ds) (h : NestedKey.depthAll ds < 64) : SeqAt.shaped (.list (NestedKey.datas ds)) = true := by
  have h2 := dep_nds ds
  have h3 : PyData.depth (.list (NestedKey.datas ds)) ≤ 64 := by
    simp only [PyData.depth]
    omega
  show (PyData.canLay0 (.list (NestedKey.datas ds)) && decide (PyData.depth (.list (NestedKey.datas ds)) ≤ 64)) = true
  rw [decide_eq_true h3, Bool.and_true]
  simp only [PyData.canLay0]
  exact DnAll.lay ds vs r
mutual
theorem eqv_nd : ∀ x y : ND, PyData.eqv x.data y.data = NestedKey.beq x y
  | .none, y => by cases y <;> simp [NestedKey.data, NestedKey.beq, PyData.eqv]
  | .num i, y => by cases y <;> simp [NestedKey.data, NestedKey.beq, PyData.eqv, Bool.beq_eq_decide_eq] <;> try rfl
  | .text x, y => by cases y <;> simp [NestedKey.data, NestedKey.beq, PyData.eqv, Bool.beq_eq_decide_eq] <;> try rfl
  | .tup xs, y => by
    cases y with
    | tup ys => simp only [NestedKey.data, NestedKey.beq, PyData.eqv]; exact eqv_nds xs ys
    | _ => simp [NestedKey.data, NestedKey.beq, PyData.eqv]
theorem eqv_nds : ∀ xs ys : List ND, PyData.eqvAll (NestedKey.datas xs) (NestedKey.datas ys) = NestedKey.beqAll xs ys
  | [], [] => by simp [NestedKey.datas, NestedKey.beqAll, PyData.eqvAll]
  | [], _ :: _ => by simp [NestedKey.datas, NestedKey.beqAll, PyData.eqvAll]
  | _ :: _, [] => by simp [NestedKey.datas, NestedKey.beqAll, PyData.eqvAll]
  | x :: xs, y :: ys => by simp only [NestedKey.datas, NestedKey.beqAll, PyData.eqvAll, eqv_nd x y, eqv_nds xs ys]
end
theorem eqv_dec (x y : ND) : PyData.eqv x.data y.data = decide (x = y) := by rw [eqv_nd, NestedKey.decide_eq]
section
variable {X : Cx} {pins : List (Addr × Obj)} {σ : L2.St} {H : Hp} {s : Shared}
mutual
theorem Dn.at (I : Inv X pins σ H s) : ∀ (d : ND) (v : V) (u : Value), Dn X.K H v d → RelV v u → NestedIs s.heap d u
  | .none, _, _, h, r => by cases h; cases r; exact .none
  | .num i, _, _, h, r => by
    cases h
    obtain ⟨t, rfl⟩ := r
    exact .int i t
  | .text x, _, _, h, r => by
    cases h
    obtain ⟨t, rfl⟩ := r
    exact .text x t
  | .tup ds, _, _, h, r => by
    cases h with
    | tup hs ha =>
      cases r
      obtain ⟨its, rv, ⟨o, ho, hc, n, hd⟩, _⟩ := I.tuple hs
      exact .tup ho hc hd (by simpa using DnAll.at I ds _ its ha rv)
theorem DnAll.at (I : Inv X pins σ H s) : ∀ (ds : List ND) (vs : List V) (us : List Value), DnAll X.K H vs ds → Vals vs us → NestedAll s.heap ds us
  | [], _, _, h, r => by cases h; cases r; exact .nil
  | d :: ds, _, _, h, r => by
    cases h with
    | cons h1 h2 =>
      cases r with
      | cons r1 r2 => exact .cons (Dn.at I d _ _ h1 r1) (DnAll.at I ds _ _ h2 r2)
end
/-- a value is one datum -/
theorem Dn.one (I : Inv X pins σ H s) {d e : ND} {v : V} {u : Value} (r : RelV v u) (h1 : Dn X.K H v d) (h2 : Dn X.K H v e) : d = e := NestedIs.inj _ _ _ (Dn.at I d v u h1 r) (Dn.at I e v u h2 r)
end
/-! ### sorted(xs), xs a list of nested data -/
def rSortN (K : PySem.W.Frag) : List V → Hp → VK → Prop := fun vs H Q => ∃ (a : Addr) (xs : List V) (ds : List ND), vs = [V.ref a] ∧ SqL K H a xs ∧ (∀ x ∈ xs, ∃ d ∈ ds, Dn K H x d) ∧ Srtb ds ∧
  ∀ (ys : List V) (p : Addr), ys.Perm xs → ys.Pairwise (fun x y => ∀ d e, Dn K H x d → Dn K H y e → ltD e d = false) → H p = none → Q (.ref p) (upd H p (.lst ys))
section
variable {X : Cx}
theorem cr_sortN (hu : X.A.units + 43 < cLine) : CallR X (.builtin "sorted") (rSortN X.K) := by
  intro pins s σ H vs us Q I r h
  obtain ⟨a, xs, ds, rfl, hs, hx, S, q⟩ := h
  obtain ⟨its, rv, hl, hz⟩ := I.list hs
  rw [Vals.ref1 r]
  have isref : ∀ x ∈ xs, ∃ t, x = V.ref t := fun x m => by
    obtain ⟨d, hd, q1⟩ := hx x m
    obtain ⟨y, r1, e⟩ := S.tup d hd
    subst e
    cases q1 with
    | tup _ _ => exact ⟨_, rfl⟩
  obtain ⟨e1, e2⟩ := bkV_refs rv isref
  have at_ : ∀ (u : Value), u ∈ its → ∃ d ∈ ds, NestedIs s.heap d u := fun u hm => by
    obtain ⟨t, rfl⟩ := e2 u hm
    have hm2 : V.ref t ∈ xs := by
      rw [e1]
      exact List.mem_map.mpr ⟨_, hm, rfl⟩
    obtain ⟨d, hd, q1⟩ := hx _ hm2
    exact ⟨d, hd, Dn.at I d _ _ q1 rfl⟩
  refine sorted_nd S hl.isList (by rw [← rv.length]; exact hz) at_ hu fun h' p out hp hs2 hk hge hat => ?_
  obtain ⟨n, he'⟩ := hat
  have h3 : ∀ u ∈ out, ∃ a, u = Value.ref a := fun u hm => e2 u (hp.mem_iff.mp hm)
  have hpm : (out.map bkV).Perm xs := by
    rw [e1]
    exact hp.map bkV
  have hlen : (out.map bkV).length ≤ sizeLine := by
    rw [hpm.length_eq]
    exact hz
  refine ⟨.ref p, upd H p (.lst (out.map bkV)), I.laid (t' := s.toks) hk hge ⟨hlen, out, n, bkV_vals h3, he'⟩, rfl, q _ _ hpm ?_ (I.hok.fresh hge)⟩
  rw [List.pairwise_map]
  refine List.Pairwise.imp_of_mem (fun {u v} hu1 hv1 huv d e hd he => ?_) hs2
  obtain ⟨t, rfl⟩ := h3 u hu1
  obtain ⟨t', rfl⟩ := h3 v hv1
  rw [datOf_eq (Dn.at I d _ _ hd rfl), datOf_eq (Dn.at I e _ _ he rfl)] at huv
  exact huv
end
/-! ### sets of nested data -/
structure SetN0 (w : World) (h : Heap) (a : Addr) (L : List (Addr × ND)) : Prop where
  ex : ∃ (es : Array (Int × Value)) (ep : Nat) (t : SetTable), (∃ o, h.get? a = some o ∧ o.ExactSet ∧ o.data = .set es ep t) ∧ es.toList = rowsN w L ∧ TabOk t (L.map fun p => hN w p.2) ∧ (L.map (·.2)).Nodup ∧
    (w.params.followText "set-order" = true ∨ t.led = true) ∧ L.length * 5 < t.mask * 3 ∧ L.length < 64
def SetNO (w : World) (a : Addr) (L : List (Addr × ND)) : HO := .ext fun h => SetN0 w h a L
theorem SetN.t0 {w : World} {h : Heap} {a : Addr} {L : List (Addr × ND)} {es : Array (Int × Value)} {ep : Nat} {t : SetTable} (R : SetN w h a L es ep t) : SetN0 w h a L :=
  ⟨es, ep, t, R.ob, R.rows, R.tab, R.nd, R.led, R.room, R.few⟩
theorem SetN0.full {w : World} {h : Heap} {a : Addr} {L : List (Addr × ND)} (R : SetN0 w h a L) (ht : ∀ p ∈ L, NestedIs h p.2 (.ref p.1)) : ∃ es ep t, SetN w h a L es ep t := by
  obtain ⟨es, ep, t, h1, h2, h3, h4, h6, h7, h8⟩ := R.ex
  exact ⟨es, ep, t, h1, h2, h3, h4, ht, h6, h7, h8⟩
theorem setNO_new {P : Program} {w : World} {H : Hp} {h : Heap} {a : Addr} {L : List (Addr × ND)} (R : SetN0 w h a L) : ObjOk P w H h a (SetNO w a L) := by
  have ⟨es, ep, t, ⟨o, ho, r⟩, q⟩ := R.ex
  refine ⟨R, ⟨o, ho⟩, fun h1 h2 p k => ?_⟩
  have ⟨es', ep', t', ⟨o', ho', r'⟩, q'⟩ := SetN0.ex p
  exact ⟨es', ep', t', ⟨o', k o' ho', r'⟩, q'⟩
theorem refsN_of_vals : ∀ {ks : List (Addr × ND)} {us : List Value}, Vals (ks.map fun p => V.ref p.1) us → us = ks.map fun p => Value.ref p.1
  | [], _, .nil => rfl
  | p :: ks, _, .cons r t => by
    cases r
    rw [refsN_of_vals t] <;> rfl
theorem valsN_of_refs : ∀ (ks : List (Addr × ND)), Vals (ks.map fun p => V.ref p.1) (ks.map fun p => Value.ref p.1)
  | [] => .nil
  | p :: ks => .cons rfl (valsN_of_refs ks)
section
variable {X : Cx}
/-- set(t), t a tuple of nested data -/
def rSetN (K : PySem.W.Frag) (w : World) : List V → Hp → VK → Prop := fun xs H Q => ∃ (l : Addr) (ks : List (Addr × ND)), xs = [V.ref l] ∧ SqT K H l (ks.map fun p => V.ref p.1) ∧ (∀ p ∈ ks, Dn K H (.ref p.1) p.2) ∧ Shal ks ∧ ks.length < 64 ∧
  ∀ a L, H a = none → (∀ p ∈ L, p ∈ ks) → (∀ p ∈ ks, p.2 ∈ L.map (·.2)) → Q (.ref a) (upd H a (SetNO w a L))
theorem cr_setN (hc : X.calm = true) (hu : X.A.units + 64 < cLine) : CallR X (.type "set") (rSetN X.K X.w) := by
  intro pins s σ H xs us Q I r h
  obtain ⟨l, ks, rfl, hl, hk, hsh, hf, q⟩ := h
  rw [Vals.ref1 r]
  obtain ⟨its, rv, pl, hz⟩ := I.tuple hl
  have hn : H s.heap.objs.size = none := I.hok.fresh (Nat.le_refl _)
  refine call_setN (P := X.prog) (w := X.w) ks (I.ok.hd hc) (show s.heap.IsTuple l its.toArray from pl) (by simpa using refsN_of_vals rv) (fun p hp => Dn.at I _ _ _ (hk p hp) rfl) hsh hf (by omega) fun h' tk L es ep t R g k => ?_
  refine ⟨.ref s.heap.objs.size, upd H s.heap.objs.size (SetNO X.w s.heap.objs.size L), I.laid (t' := tk) k (Nat.le_refl _) (setNO_new R.t0), rfl, q _ L hn (fun p hp => ?_) fun p hp => ?_⟩
  · exact List.mem_of_mem_take (g.sub p hp)
  · exact g.all p (by rw [List.take_length]; exact hp)
/-- sorted(set) -/
def rSortedSN (K : PySem.W.Frag) (w : World) : List V → Hp → VK → Prop := fun vs H Q => ∃ (a : Addr) (L : List (Addr × ND)), vs = [V.ref a] ∧ H a = some (SetNO w a L) ∧ (∀ p ∈ L, Dn K H (.ref p.1) p.2) ∧ Srtb (L.map (·.2)) ∧
  ∀ (L' : List (Addr × ND)) (p : Addr), L'.Perm L → (L'.map (·.2)).Pairwise (fun x y => ltD x y = true) → H p = none → Q (.ref p) (upd H p (.lst (L'.map fun q => V.ref q.1)))
theorem cr_sortedSN (hc : X.calm = true) (hu : X.A.units + 60 < cLine) : CallR X (.builtin "sorted") (rSortedSN X.K X.w) := by
  intro pins s σ H vs us Q I r h
  obtain ⟨a, L, rfl, ha, hk, S, q⟩ := h
  have R0 : SetN0 X.w s.heap a L := (I.hok a _ ha).1
  obtain ⟨es, ep, t, R⟩ := R0.full fun p hp => Dn.at I _ _ _ (hk p hp) rfl
  rw [Vals.ref1 r]
  refine sorted_setN R S (I.ok.hd hc) hu fun s' p c L' k g o hp hg pm pw => ?_
  have hfew : L'.length < 64 := by rw [pm.length_eq]; exact R.few
  have hlen : (L'.map fun q => V.ref q.1).length ≤ sizeLine := by rw [List.length_map, sizeLine_eq]; omega
  have hn : H p = none := I.hok.fresh hp
  have J : Inv X pins σ (upd H p (.lst (L'.map fun q => V.ref q.1))) { s with heap := s'.heap, gens := s'.gens, drawn := s'.drawn, toks := s'.toks } :=
    I.call (ch := []) (Un.laid k hp hn) (I.hok.laid k hp ⟨hlen, _, c, valsN_of_refs L', hg⟩) (by rw [g]; exact I.bare) (fun _ z => nomatch z)
  have e : s' = { s with heap := s'.heap, gens := s'.gens, drawn := s'.drawn, toks := s'.toks } := by
    cases s'
    cases s
    cases o
    rfl
  rw [e]
  exact ⟨.ref p, _, J, rfl, q L' p pm pw hn⟩
end
end TC

namespace TC
open PySem PySem.Spec PyProof.Rows L2
/-! ### sayings -/
inductive Op3 | and | or | iff
  deriving DecidableEq
def Op3.name : Op3 → Str
  | .and => "and"
  | .or => "or"
  | .iff => "if"
inductive Say
  | say (n : Str)
  | not (a : Say)
  | bin (o : Op3) (a b : Say)
namespace Say
def size : Say → Nat
  | .say _ => 1
  | .not a => a.size + 1
  | .bin _ a b => a.size + b.size + 1
def dep : Say → Nat
  | .say _ => 1
  | .not a => a.dep + 1
  | .bin _ a b => max a.dep b.dep + 1
def nd : Say → ND
  | .say n => .tup [.text "say", .text n]
  | .not a => .tup [.text "not", a.nd]
  | .bin o a b => .tup [.text o.name, a.nd, b.nd]
/-- a part -/
def Sub (P : Say) : Say → Prop
  | .say n => P = .say n
  | .not a => P = .not a ∨ Sub P a
  | .bin o a b => P = .bin o a b ∨ Sub P a ∨ Sub P b
/-- a part that is less -/
def Less (P : Say) : Say → Prop
  | .say _ => False
  | .not a => Sub P a
  | .bin _ a b => Sub P a ∨ Sub P b
theorem Sub.refl : ∀ S : Say, Sub S S
  | .say _ => rfl
  | .not _ => .inl rfl
  | .bin _ _ _ => .inl rfl
theorem Less.sub {P : Say} : ∀ {S : Say}, Less P S → Sub P S
  | .not _, h => .inr h
  | .bin _ _ _, h => .inr h
theorem Sub.cases {P : Say} : ∀ {S : Say}, Sub P S → P = S ∨ Less P S
  | .say _, h => .inl h
  | .not _, h => h
  | .bin _ _ _, h => h
theorem Sub.trans {P Q : Say} (h : Sub P Q) : ∀ {S : Say}, Sub Q S → Sub P S
  | .say n, q => by
    have e : Q = .say n := q
    rw [e] at h
    exact h
  | .not a, q => by
    rcases q with e | q
    · rw [e] at h; exact h
    · exact .inr (Sub.trans h q)
  | .bin o a b, q => by
    rcases q with e | q | q
    · rw [e] at h; exact h
    · exact .inr (.inl (Sub.trans h q))
    · exact .inr (.inr (Sub.trans h q))
theorem Sub.size {P : Say} : ∀ {S : Say}, Sub P S → P.size ≤ S.size
  | .say n, q => by rw [show P = .say n from q] <;> exact Nat.le_refl _
  | .not a, q => by
    rcases q with e | q
    · rw [e] <;> exact Nat.le_refl _
    · have := Sub.size q
      show P.size ≤ a.size + 1
      omega
  | .bin o a b, q => by
    rcases q with e | q | q
    · rw [e] <;> exact Nat.le_refl _
    · have := Sub.size q
      show P.size ≤ a.size + b.size + 1
      omega
    · have := Sub.size q
      show P.size ≤ a.size + b.size + 1
      omega
theorem size_pos : ∀ S : Say, 1 ≤ S.size
  | .say _ => Nat.le_refl _
  | .not a => by show 1 ≤ a.size + 1; omega
  | .bin _ a b => by show 1 ≤ a.size + b.size + 1; omega
theorem dep_le : ∀ S : Say, S.dep ≤ S.size
  | .say _ => Nat.le_refl _
  | .not a => by
    have := dep_le a
    show a.dep + 1 ≤ a.size + 1
    omega
  | .bin _ a b => by
    have h1 := dep_le a
    have h2 := dep_le b
    show max a.dep b.dep + 1 ≤ a.size + b.size + 1
    omega
theorem nd_dep : ∀ S : Say, S.nd.depth = S.dep
  | .say _ => by simp [nd, dep, NestedKey.depth, NestedKey.depthAll]
  | .not a => by
    have := nd_dep a
    simp [nd, dep, NestedKey.depth, NestedKey.depthAll, this]
  | .bin _ a b => by
    have h1 := nd_dep a
    have h2 := nd_dep b
    simp [nd, dep, NestedKey.depth, NestedKey.depthAll, h1, h2]
theorem name_inj : ∀ o p : Op3, o.name = p.name → o = p := by
  intro o p
  cases o <;> cases p <;> first | (intro _; rfl) | (intro h; exact absurd h (by decide +kernel))
theorem name_not (o : Op3) : o.name ≠ ("not" : Str) := by cases o <;> decide +kernel
theorem name_say (o : Op3) : o.name ≠ ("say" : Str) := by cases o <;> decide +kernel
theorem say_not : ("say" : Str) ≠ ("not" : Str) := by decide +kernel
theorem okTxt {x y : Str} {xs ys : List ND} (h : x ≠ y) : okD (.tup (.text x :: xs)) (.tup (.text y :: ys)) = true := by
  rw [okD_tup, okL_ne (fun e => h (by injection e))]
  rfl
theorem okTup {x : Str} {xs ys : List ND} : okD (.tup (.text x :: xs)) (.tup (.text x :: ys)) = okL xs ys := by rw [okD_tup, okL_same]
theorem okCons {x y : ND} {xs ys : List ND} (h : x ≠ y → okD x y = true) (h2 : x = y → okL xs ys = true) : okL (x :: xs) (y :: ys) = true := by
  by_cases e : x = y
  · subst e
    rw [okL_same]
    exact h2 rfl
  · rw [okL_ne e]
    exact h e
/-- any two sayings are ordered -/
theorem nd_ok : ∀ a b : Say, okD a.nd b.nd = true
  | .say n, .say m => by
    show okD (.tup [.text "say", .text n]) (.tup [.text "say", .text m]) = true
    rw [okTup]
    exact okCons (fun _ => rfl) fun _ => rfl
  | .say n, .not b => okTxt say_not
  | .say n, .bin o b c => okTxt fun e => name_say o e.symm
  | .not a, .say m => okTxt fun e => say_not e.symm
  | .not a, .not b => by
    show okD (.tup [.text "not", a.nd]) (.tup [.text "not", b.nd]) = true
    rw [okTup]
    exact okCons (fun _ => nd_ok a b) fun _ => rfl
  | .not a, .bin o b c => okTxt fun e => name_not o e.symm
  | .bin o a c, .say m => okTxt (name_say o)
  | .bin o a c, .not b => okTxt (name_not o)
  | .bin o a c, .bin p b d => by
    by_cases e : o = p
    · subst e
      show okD (.tup [.text o.name, a.nd, c.nd]) (.tup [.text o.name, b.nd, d.nd]) = true
      rw [okTup]
      exact okCons (fun _ => nd_ok a b) fun _ => okCons (fun _ => nd_ok c d) fun _ => rfl
    · exact okTxt fun e2 => e (name_inj _ _ e2)
theorem nd_inj : ∀ a b : Say, a.nd = b.nd → a = b
  | .say n, .say m, h => by
    simp only [nd, NestedKey.tup.injEq, List.cons.injEq, NestedKey.text.injEq, and_true, true_and] at h
    rw [h]
  | .say n, .not b, h => by
    simp only [nd, NestedKey.tup.injEq, List.cons.injEq, NestedKey.text.injEq] at h
    exact absurd h.1 say_not
  | .say n, .bin o b c, h => by
    simp only [nd, NestedKey.tup.injEq, List.cons.injEq, NestedKey.text.injEq] at h
    exact absurd h.1.symm (name_say o)
  | .not a, .say m, h => by
    simp only [nd, NestedKey.tup.injEq, List.cons.injEq, NestedKey.text.injEq] at h
    exact absurd h.1.symm say_not
  | .not a, .not b, h => by
    simp only [nd, NestedKey.tup.injEq, List.cons.injEq, NestedKey.text.injEq, and_true, true_and] at h
    rw [nd_inj a b h]
  | .not a, .bin o b c, h => by
    simp only [nd, NestedKey.tup.injEq, List.cons.injEq, NestedKey.text.injEq] at h
    exact absurd h.1.symm (name_not o)
  | .bin o a c, .say m, h => by
    simp only [nd, NestedKey.tup.injEq, List.cons.injEq, NestedKey.text.injEq] at h
    exact absurd h.1 (name_say o)
  | .bin o a c, .not b, h => by
    simp only [nd, NestedKey.tup.injEq, List.cons.injEq, NestedKey.text.injEq] at h
    exact absurd h.1 (name_not o)
  | .bin o a c, .bin p b d, h => by
    simp only [nd, NestedKey.tup.injEq, List.cons.injEq, NestedKey.text.injEq, and_true] at h
    rw [name_inj _ _ h.1, nd_inj a b h.2.1, nd_inj c d h.2.2]
end Say
/-- lists of sayings may be sorted -/
theorem srtb_say {Ss : List Say} (h : ∀ S ∈ Ss, S.dep ≤ 40) : Srtb (Ss.map Say.nd) where
  tup := fun d hd => by
    obtain ⟨S, _, rfl⟩ := List.mem_map.mp hd
    cases S with
    | say n => exact ⟨_, _, rfl⟩
    | not a => exact ⟨_, _, rfl⟩
    | bin o a b => exact ⟨_, _, rfl⟩
  ok := fun d hd e he _ => by
    obtain ⟨S, _, rfl⟩ := List.mem_map.mp hd
    obtain ⟨S', _, rfl⟩ := List.mem_map.mp he
    exact Say.nd_ok S S'
  dep := fun d hd => by
    obtain ⟨S, hS, rfl⟩ := List.mem_map.mp hd
    rw [Say.nd_dep]
    exact h S hS
  fst := .inl fun d hd => by
    obtain ⟨S, _, rfl⟩ := List.mem_map.mp hd
    cases S with
    | say n => exact ⟨_, _, rfl⟩
    | not a => exact ⟨_, _, rfl⟩
    | bin o a b => exact ⟨_, _, rfl⟩
theorem ok_name (o : Op3) : PyData.strOk o.name = true := by cases o <;> decide +kernel
section
variable {K : PySem.W.Frag} {H : Hp}
theorem Dn.tup2 {v : V} {d e : ND} (h : Dn K H v (.tup [d, e])) : ∃ a x y, v = .ref a ∧ SqT K H a [x, y] ∧ Dn K H x d ∧ Dn K H y e := by
  cases h with
  | tup hs ha =>
    cases ha with
    | cons h1 t =>
      cases t with
      | cons h2 t =>
        cases t
        exact ⟨_, _, _, rfl, hs, h1, h2⟩
theorem Dn.tup3 {v : V} {d e f : ND} (h : Dn K H v (.tup [d, e, f])) : ∃ a x y z, v = .ref a ∧ SqT K H a [x, y, z] ∧ Dn K H x d ∧ Dn K H y e ∧ Dn K H z f := by
  cases h with
  | tup hs ha =>
    cases ha with
    | cons h1 t =>
      cases t with
      | cons h2 t =>
        cases t with
        | cons h3 t =>
          cases t
          exact ⟨_, _, _, _, rfl, hs, h1, h2, h3⟩
theorem Dn.text {v : V} {x : Str} (h : Dn K H v (.text x)) : v = .str x ∧ PyData.strOk x = true := by
  cases h with
  | str _ ok => exact ⟨rfl, ok⟩
theorem sa_say {v : V} {n : Str} (h : Dn K H v (Say.nd (.say n))) : ∃ a, v = .ref a ∧ SqT K H a [.str "say", .str n] ∧ PyData.strOk n = true := by
  obtain ⟨a, x, y, e, hs, h1, h2⟩ := Dn.tup2 h
  obtain ⟨e1, _⟩ := h1.text
  obtain ⟨e2, o2⟩ := h2.text
  subst e1 e2
  exact ⟨a, e, hs, o2⟩
theorem sa_not {v : V} {A : Say} (h : Dn K H v (Say.nd (.not A))) : ∃ a x, v = .ref a ∧ SqT K H a [.str "not", x] ∧ Dn K H x A.nd := by
  obtain ⟨a, x, y, e, hs, h1, h2⟩ := Dn.tup2 h
  obtain ⟨e1, _⟩ := h1.text
  subst e1
  exact ⟨a, _, e, hs, h2⟩
theorem sa_bin {v : V} {o : Op3} {A B : Say} (h : Dn K H v (Say.nd (.bin o A B))) : ∃ a x y, v = .ref a ∧ SqT K H a [.str o.name, x, y] ∧ Dn K H x A.nd ∧ Dn K H y B.nd := by
  obtain ⟨a, x, y, z, e, hs, h1, h2, h3⟩ := Dn.tup3 h
  obtain ⟨e1, _⟩ := h1.text
  subst e1
  exact ⟨a, _, _, e, hs, h2, h3⟩
theorem mk_say {a : Addr} {n : Str} (h : SqT K H a [.str "say", .str n]) (o : PyData.strOk n = true) : Dn K H (.ref a) (Say.nd (.say n)) := .tup h (.cons (.str _ (by decide +kernel)) (.cons (.str _ o) .nil))
theorem mk_not {a : Addr} {x : V} {A : Say} (h : SqT K H a [.str "not", x]) (hx : Dn K H x A.nd) : Dn K H (.ref a) (Say.nd (.not A)) := .tup h (.cons (.str _ (by decide +kernel)) (.cons hx .nil))
theorem mk_bin {a : Addr} {x y : V} {o : Op3} {A B : Say} (h : SqT K H a [.str o.name, x, y]) (hx : Dn K H x A.nd) (hy : Dn K H y B.nd) : Dn K H (.ref a) (Say.nd (.bin o A B)) := .tup h (.cons (.str _ (ok_name o)) (.cons hx (.cons hy .nil)))
theorem SqT.tyx {a : Addr} {xs : List V} (h : SqT K H a xs) : TyX K H (.ref a) (.type "tuple") := by
  rcases h with (h | ⟨o, h⟩) | ⟨o, its, n, hk, hc, _⟩
  · exact .base (.tup h)
  · exact .fTuple h
  · exact .kTuple hk hc
theorem SqL.tyx {a : Addr} {xs : List V} (h : SqL K H a xs) : TyX K H (.ref a) (.type "list") := by
  rcases h with (h | ⟨o, h⟩) | ⟨o, its, n, hk, hc, _⟩
  · exact .base (.lst h)
  · exact .base (.frz h)
  · exact .kList hk hc
theorem SqT.kon {a : Addr} {xs : List V} (h : SqT K (fun _ => none) a xs) : SqT K H a xs := by
  rcases h with (h | ⟨o, h⟩) | h
  · cases h
  · cases h
  · exact .inr h
end
theorem _root_.L2.Room.u65 {k : Nat} {A : Around} (r : Room k A) : A.units + 65 < cLine := by
  have := r.un
  omega
theorem _root_.L2.Room.u60 {k : Nat} {A : Around} (r : Room k A) : A.units + 60 < cLine := by
  have := r.units
  omega
theorem _root_.L2.Room.u43 {k : Nat} {A : Around} (r : Room k A) : A.units + 43 < cLine := by
  have := r.units
  omega
/-! ### comprehensions over zip -/
theorem lc_zipL {K : PySem.W.Frag} {a b : Addr} {xs ys : List V} {g : TG} {tt : TT} {te : TE} {vs : List Nat} {σ : L2.St} {H1 : Hp} {D : Addr} {Qd : Hp → Prop} (hlen : xs.length = ys.length) (Pv : Nat → Hp → Prop) (h0 : Pv 0 (upd H1 D (.lst [])))
    (hl : ∀ i H, i ≤ xs.length → Pv i H → SqL K H a xs ∧ SqL K H b ys)
    (hs : ∀ i x y T H, xs[i]? = some x → ys[i]? = some y → Pv i H → H T = none → g (.ref T) (wipe σ vs) (upd H T (.tup [x, y])) fun σ2 H2 => wipe σ2 vs = wipe σ vs ∧ tt σ2 H2 fun b H3 =>
      if b = true then te σ2 H3 fun y H4 => ∃ acc, H4 D = some (.lst acc) ∧ acc.length < sizeLine ∧ Pv (i + 1) (upd H4 D (.lst (acc ++ [y]))) else Pv (i + 1) H3) (hd : ∀ H, Pv xs.length H → Qd H) :
    ∃ W : Nat → Nat → Hp → Prop, (∃ m, W 0 m (upd H1 D (.lst []))) ∧ ∀ i m H, W i m H →
      ((Itz K a b).stop i H ∧ Qd H) ∨ ((Itz K a b).go i H ∧ ∃ Nx : Hp → Prop, (∀ H', Nx H' → ∃ m', m' < m ∧ W (i + 1) m' H') ∧ ∀ x H', (Itz K a b).yld i H x H' → g x (wipe σ vs) H' fun σ2 H2 => wipe σ2 vs = wipe σ vs ∧ tt σ2 H2 fun b H3 =>
        if b = true then te σ2 H3 fun y H4 => ∃ acc, H4 D = some (.lst acc) ∧ acc.length < sizeLine ∧ Nx (upd H4 D (.lst (acc ++ [y]))) else Nx H3) := by
  refine ⟨fun i m H => m = xs.length - i ∧ i ≤ xs.length ∧ Pv i H, ⟨xs.length, by simp, Nat.zero_le _, h0⟩, ?_⟩
  rintro i m H ⟨rfl, hi, p⟩
  obtain ⟨qx, qy⟩ := hl i H hi p
  by_cases hlt : i < xs.length
  · have hx : xs[i]? = some xs[i] := List.getElem?_eq_getElem hlt
    have hlt2 : i < ys.length := by omega
    have hy : ys[i]? = some ys[i] := List.getElem?_eq_getElem hlt2
    refine .inr ⟨⟨xs, ys, _, _, qx, qy, hx, hy⟩, Pv (i + 1), fun H' p' => ⟨xs.length - (i + 1), by omega, rfl, hlt, p'⟩, fun v H' y => ?_⟩
    obtain ⟨T, x', y', rfl, hT, rfl, f1, f2⟩ := y
    exact hs i x' y' T H (f1 xs qx) (f2 ys qy) p hT
  · have e : i = xs.length := by omega
    subst e
    exact .inl ⟨⟨xs, ys, qx, qy, Or.inl (Nat.le_refl _)⟩, hd H p⟩
theorem lc_zipT {K : PySem.W.Frag} {a b : Addr} {xs ys : List V} {g : TG} {tt : TT} {te : TE} {vs : List Nat} {σ : L2.St} {H1 : Hp} {D : Addr} {Qd : Hp → Prop} (hlen : xs.length = ys.length) (Pv : Nat → Hp → Prop) (h0 : Pv 0 (upd H1 D (.lst [])))
    (hl : ∀ i H, i ≤ xs.length → Pv i H → SqT K H a xs ∧ SqT K H b ys)
    (hs : ∀ i x y T H, xs[i]? = some x → ys[i]? = some y → Pv i H → H T = none → g (.ref T) (wipe σ vs) (upd H T (.tup [x, y])) fun σ2 H2 => wipe σ2 vs = wipe σ vs ∧ tt σ2 H2 fun b H3 =>
      if b = true then te σ2 H3 fun y H4 => ∃ acc, H4 D = some (.lst acc) ∧ acc.length < sizeLine ∧ Pv (i + 1) (upd H4 D (.lst (acc ++ [y]))) else Pv (i + 1) H3) (hd : ∀ H, Pv xs.length H → Qd H) :
    ∃ W : Nat → Nat → Hp → Prop, (∃ m, W 0 m (upd H1 D (.lst []))) ∧ ∀ i m H, W i m H →
      ((RZ.ItzT K a b).stop i H ∧ Qd H) ∨ ((RZ.ItzT K a b).go i H ∧ ∃ Nx : Hp → Prop, (∀ H', Nx H' → ∃ m', m' < m ∧ W (i + 1) m' H') ∧ ∀ x H', (RZ.ItzT K a b).yld i H x H' → g x (wipe σ vs) H' fun σ2 H2 => wipe σ2 vs = wipe σ vs ∧ tt σ2 H2 fun b H3 =>
        if b = true then te σ2 H3 fun y H4 => ∃ acc, H4 D = some (.lst acc) ∧ acc.length < sizeLine ∧ Nx (upd H4 D (.lst (acc ++ [y]))) else Nx H3) := by
  refine ⟨fun i m H => m = xs.length - i ∧ i ≤ xs.length ∧ Pv i H, ⟨xs.length, by simp, Nat.zero_le _, h0⟩, ?_⟩
  rintro i m H ⟨rfl, hi, p⟩
  obtain ⟨qx, qy⟩ := hl i H hi p
  by_cases hlt : i < xs.length
  · have hx : xs[i]? = some xs[i] := List.getElem?_eq_getElem hlt
    have hlt2 : i < ys.length := by omega
    have hy : ys[i]? = some ys[i] := List.getElem?_eq_getElem hlt2
    refine .inr ⟨⟨xs, ys, _, _, qx, qy, hx, hy⟩, Pv (i + 1), fun H' p' => ⟨xs.length - (i + 1), by omega, rfl, hlt, p'⟩, fun v H' y => ?_⟩
    obtain ⟨T, x', y', rfl, hT, rfl, f1, f2⟩ := y
    exact hs i x' y' T H (f1 xs qx) (f2 ys qy) p hT
  · have e : i = xs.length := by omega
    subst e
    exact .inl ⟨⟨xs, ys, qx, qy, Or.inl (Nat.le_refl _)⟩, hd H p⟩
end TC

namespace TC
open PySem PySem.Spec PyProof.Rows L2
/-! ### str.replace(text, list[place]): the tokens carried -/
/-- no reader has booked a token: said of the written part -/
def Unbooked (K : PySem.W.Frag) : Prop := ∃ (o : Obj) (es : Array DictEntry) (n : Nat), K.lookup cStatics = some o ∧ o.data = .dict es n ∧ StrKeys es ∧ nsFind es sharingNotToldKey = none
theorem Unbooked.none {K : PySem.W.Frag} {h : Heap} (u : Unbooked K) (X : K.In h) : NoneBooked h := by
  obtain ⟨o, es, n, h1, h2, h3, h4⟩ := u
  exact ⟨nsFind es, ⟨o, es, n, X _ _ h1, h2, h3, fun _ => rfl⟩, h4⟩
section
variable {X : Cx} {st : Stmt} {rest : List Stmt} {t u : TS}
theorem psst_cut (h1 : PST X st t) (h2 : PSsT X rest u) : PSsT X (st :: rest) (C8.tCut t u) := by
  intro pins s σ H D h0 I h
  obtain ⟨Mid, hm, hu⟩ := h
  refine wpAny_execs_cons (wpAny_mono (PySem.wpAny_toks (h1 pins s σ H { D with nx := Mid } h0 I hm)) (fun f s1 q => ?_) fun _ _ x => x.2)
  obtain ⟨hk, q⟩ := q
  cases f with
  | next =>
    obtain ⟨σ', H', I', q⟩ := q
    exact h2 pins s1 σ' H' D (Nat.le_trans h0 hk) I' (hu σ' H' q)
  | ret v => exact q
  | brk => exact q
  | cont => exact q
/-- x = [texts ..]: behind it a token is out -/
theorem pss_lstT {i j : Nat} {c : Str} {cpos : Pos} {es : List Expr} {ta : TA} {x : Str} {lpos pos' pos : Pos} (hN : X.N.Nodup) (hi : X.N[i]? = some x) (hx : Loc X.env.scope x) (ha : PA X es ta) (h2 : PSsT X rest u)
    (hst : starEach (.Constant (.str c) j cpos :: es) X.env = (false, eval (.Constant (.str c) j cpos) X.env) :: starEach es X.env := by rfl)
    (hs : swapsWith (.List (.Constant (.str c) j cpos :: es) lpos) (some (.Name x pos')) pos.line X.env = pure false := by rfl) (hf : X.fn x = true ∨ X.env.scope.names.lookup x = some .local := by first | exact .inl rfl | exact .inr rfl | assumption) :
    PSs X (.Assign [.Name x pos'] (.List (.Constant (.str c) j cpos :: es) lpos) pos :: rest) (tSeq (tAsg (tLst (tCons (tC (.str c)) ta)) (gName i)) u) := by
  refine ⟨fun pins s σ H D I h => ?_⟩
  refine wpAny_execs_cons (wpAny_mono (wpAny_Assign_Name (Q := fun f s2 => 1 ≤ s2.toks ∧ SP X pins { D with nx := u D } f s2) ?_ hs) (fun f s1 q => ?_) fun _ _ e => e)
  · refine wpAny_List_spliced ?_
    rw [hst]
    show wpAny _ _ (spliced ((false, eval (.Constant (.str c) j cpos) X.env) :: backTo lpos (starEach es X.env))) _ _ s
    refine Calls.spliced_cons (Calls.Constant_str ?_)
    refine wpAny_mono (PySem.wpAny_toks (ha.run lpos pins { s with toks := s.toks + 1 } σ H _ (I.tok _) h)) (fun us s1 q => ?_) fun _ _ e => e.2
    obtain ⟨hk, xs, H1, I1, r, z, q⟩ := q
    refine ⟨by rw [List.length_cons, ← r.length]; exact z, ?_⟩
    have hf1 : H1 s1.heap.objs.size = Option.none := I1.hok.fresh (Nat.le_refl _)
    have I2 : Inv X pins σ (upd H1 s1.heap.objs.size (.lst (.str c :: xs))) { s1 with heap := s1.heap.push { cls := .type "list", data := .seq (Value.str c s.toks :: us).toArray } } :=
      I1.laid (t' := s1.toks) (fun b u e => Heap.get?_push_of_some _ e) (Nat.le_refl _) ⟨z, _, 0, .cons ⟨_, rfl⟩ r, Heap.get?_push_size _ rfl⟩
    have hk1 : 1 ≤ s1.toks := by
      have : s.toks + 1 ≤ s1.toks := hk
      omega
    refine wpAny_mono (PySem.wpAny_toks (store_ok (v := V.ref s1.heap.objs.size) (u := Value.ref s1.heap.objs.size) (Q := fun _ s2 => Inv X pins (σ.set i (some (V.ref s1.heap.objs.size))) _ s2) I2 hN hi hx rfl (fun _ I3 => I3) hf)) (fun _ s2 q2 => ?_) fun _ _ z => z.2
    exact ⟨Nat.le_trans hk1 q2.1, _, _, q2.2, q _ hf1⟩
  · obtain ⟨hk, q⟩ := q
    cases f with
    | next =>
      obtain ⟨σ', H', I', q⟩ := q
      exact h2 pins s1 σ' H' D hk I' q
    | ret v => exact q
    | brk => exact q
    | cont => exact q
theorem pst_set {i : Nat} {x : Str} {e : Expr} {te : TE} {pos' pos : Pos} (hN : X.N.Nodup) (hi : X.N[i]? = some x) (hx : Loc X.env.scope x) (he : PET X e te) (hs : swapsWith e (some (.Name x pos')) pos.line X.env = pure false := by rfl)
    (hf : X.fn x = true ∨ X.env.scope.names.lookup x = some .local := by first | exact .inl rfl | exact .inr rfl | assumption) : PST X (.Assign [.Name x pos'] e pos) (tAsg te (gName i)) := by
  intro pins s σ H D h0 I h
  refine wpAny_Assign_Name (thn (he pins s σ H _ h0 I h) fun v s1 ⟨y, H1, I1, r1, q1⟩ => ?_) hs
  exact store_ok I1 hN hi hx r1 (fun s2 I2 => ⟨_, H1, I2, q1⟩) hf
theorem pst_while {c : Expr} {body : List Stmt} {tc : TT} {tb : TS} {pos : Pos} (hp : PassesOwn (model X.prog X.w) X.A X.env X.xe) (hc : PT X c tc) (hb : PSsT X body tb) : PST X (.While c body [] pos) (tWhile tc tb) := by
  intro pins s σ H D h0 I h
  obtain ⟨W, ⟨m0, w0⟩, turn⟩ := h
  refine wpAny_While (codeAny_whileLoop (fun n s' => 1 ≤ s'.toks ∧ ∃ σ' H', Inv X pins σ' H' s' ∧ W n σ' H') ?_ m0 ⟨h0, σ, H, I, w0⟩)
  rintro n s1 ⟨h1, σ1, H1, I1, w1⟩
  refine wpAny_passesOwn hp (wpAny_mono (PySem.wpAny_toks (hc.run pins s1 σ1 H1 _ I1 (turn n σ1 H1 w1))) (fun b s2 q => ?_) fun _ _ x => x.2)
  obtain ⟨hk, H2, I2, q2⟩ := q
  have h2 := Nat.le_trans h1 hk
  cases b with
  | true =>
    obtain ⟨N, hN, q2⟩ := q2
    rw [if_pos rfl]
    refine wpAny_passesOwn hp (wpAny_mono (PySem.wpAny_toks (hb pins s2 σ1 H2 _ h2 I2 q2)) (fun f s3 q3 => ?_) fun _ _ x => x.2)
    obtain ⟨hk3, q3⟩ := q3
    have h3 := Nat.le_trans h2 hk3
    cases f with
    | next =>
      obtain ⟨σ3, H3, I3, n3⟩ := q3
      obtain ⟨m', hm, w3⟩ := hN σ3 H3 n3
      exact ⟨m', hm, h3, σ3, H3, I3, w3⟩
    | cont =>
      obtain ⟨σ3, H3, I3, n3⟩ := q3
      obtain ⟨m', hm, w3⟩ := hN σ3 H3 n3
      exact ⟨m', hm, h3, σ3, H3, I3, w3⟩
    | brk => exact q3
    | ret v => exact q3
  | false =>
    rw [if_neg Bool.false_ne_true]
    exact wpAny_execs_nil ⟨σ1, H2, I2, q2⟩
end
/-- the reading: the text, then the list (known), the place, the new text -/
def tReplL (to : TE) (y a b c : Str) (te : TE) : TE := fun σ H Q => to σ H fun v H1 => ∃ x, v = .str x ∧
  ∀ (p : Addr) (ob : Obj), H1 p = none → te σ (upd H1 p (.frz ob (.lst [.str a, .str b, .str c]))) fun iv H2 => ∃ (k : Nat) (z : Str), iv = .int (k : Int) ∧ H2 p = some (.frz ob (.lst [.str a, .str b, .str c])) ∧ [a, b, c][k]? = some z ∧
    x.length + (x.length + 1) * z.length ≤ 16777216 ∧ Q (.str (Txt.replace x y z)) H2
section
variable {X : Cx} {o e : Expr} {to te : TE} {y a b c : Str} {j0 j1 j2 j3 : Nat} {c0 c1 c2 c3 lpos spos apos pos : Pos}
theorem pet_replL (U : Unbooked X.K) (ho : PE X o to) (he : PE X e te)
    (hst : starEach [.Constant (.str y) j0 c0, .Subscript (.List [.Constant (.str a) j1 c1, .Constant (.str b) j2 c2, .Constant (.str c) j3 c3] lpos) e spos] X.env =
      [(false, eval (.Constant (.str y) j0 c0) X.env), (false, eval (.Subscript (.List [.Constant (.str a) j1 c1, .Constant (.str b) j2 c2, .Constant (.str c) j3 c3] lpos) e spos) X.env)] := by rfl)
    (hbase : attributeBase o "replace" X.env (eval o X.env) = eval o X.env := by rfl) (hline : (apos.endLine == pos.line) = true := by rfl) (hs : PlainIx e := by exact fun _ _ => rfl) :
    PET X (.Call (.Attribute o "replace" apos) [.Constant (.str y) j0 c0, .Subscript (.List [.Constant (.str a) j1 c1, .Constant (.str b) j2 c2, .Constant (.str c) j3 c3] lpos) e spos] [] pos) (tReplL to y a b c te) := by
  intro pins s σ H Q h0 I h
  refine PySem.Call_method2 hbase hst hline (wpAny_mono (PySem.wpAny_toks (ho.run pins s σ H _ I h)) (fun v s1 q => ?_) fun _ _ z => z.2)
  obtain ⟨hk, v', H1, I1, r1, x, e1, q⟩ := q
  subst e1
  obtain ⟨tx, e2⟩ := r1
  subst e2
  refine ⟨"str", _, PySem.F.plainAttrs_str, PySem.F.slot_str_replace, PySem.F.type_str_replace, typeIs_str _ _ _, (fun _ e => nomatch e), Calls.callWith_builtin rfl (Calls.evalArgs_plain (Calls.spliced_cons ?_))⟩
  refine Calls.Constant_str (Calls.spliced_cons ?_)
  refine Subscript_ (wpAny_List_spliced ?_)
  show wpAny _ _ (spliced ((false, eval (.Constant (.str a) j1 c1) X.env) :: backTo lpos (starEach [.Constant (.str b) j2 c2, .Constant (.str c) j3 c3] X.env))) _ _ _
  refine Calls.spliced_cons (Calls.Constant_str ?_)
  show wpAny _ _ (spliced ((false, eval (.Constant (.str b) j2 c2) X.env) :: backTo lpos (starEach [.Constant (.str c) j3 c3] X.env))) _ _ _
  refine Calls.spliced_cons (Calls.Constant_str ?_)
  show wpAny _ _ (spliced ((false, eval (.Constant (.str c) j3 c3) X.env) :: backTo lpos (starEach [] X.env))) _ _ _
  refine Calls.spliced_cons (Calls.Constant_str (Calls.spliced_nil ?_))
  have h3 : (3 : Nat) ≤ sizeLine := by decide
  refine ⟨h3, ?_⟩
  have hk0 : 1 ≤ s1.toks := Nat.le_trans h0 hk
  have hn : H1 s1.heap.objs.size = Option.none := I1.hok.fresh (Nat.le_refl _)
  have q2 := q s1.heap.objs.size { cls := .type "list", data := .seq #[.str a (s1.toks + 1), .str b (s1.toks + 1 + 1), .str c (s1.toks + 1 + 1 + 1)] 0 } hn
  have I2 : Inv X pins σ (upd H1 s1.heap.objs.size (.frz { cls := .type "list", data := .seq #[.str a (s1.toks + 1), .str b (s1.toks + 1 + 1), .str c (s1.toks + 1 + 1 + 1)] 0 } (.lst [.str a, .str b, .str c])))
      { s1 with toks := s1.toks + 1 + 1 + 1 + 1, heap := s1.heap.push { cls := .type "list", data := .seq #[.str a (s1.toks + 1), .str b (s1.toks + 1 + 1), .str c (s1.toks + 1 + 1 + 1)] 0 } } :=
    I1.laid (t' := s1.toks + 1 + 1 + 1 + 1) (fun b u e => Heap.get?_push_of_some _ e) (Nat.le_refl _) ⟨Heap.get?_push_size _ rfl, h3, [.str a (s1.toks + 1), .str b (s1.toks + 1 + 1), .str c (s1.toks + 1 + 1 + 1)], 0, .cons ⟨_, rfl⟩ (.cons ⟨_, rfl⟩ (.cons ⟨_, rfl⟩ .nil)), Heap.get?_push_size _ rfl⟩
  refine thn (he.run pins _ σ _ _ I2 q2) fun iv s2 ⟨iv', H2, I3, r3, k, z, e3, hf, hz, hb, q3⟩ => ?_
  subst e3
  obtain ⟨ti, e4⟩ := r3
  subst e4
  have hob := (I3.hok _ _ hf).1
  have hl : s2.heap.IsList s1.heap.objs.size #[.str a (s1.toks + 1), .str b (s1.toks + 1 + 1), .str c (s1.toks + 1 + 1 + 1)] := ⟨_, hob, rfl, 0, rfl⟩
  have kk : k < 3 := by
    have := (List.getElem?_eq_some_iff.mp hz).1
    simpa using this
  have item : ∃ tz : Tok, (#[Value.str a (s1.toks + 1), .str b (s1.toks + 1 + 1), .str c (s1.toks + 1 + 1 + 1)] : Array Value)[((k : Nat) : Int).toNat]? = some (.str z tz) ∧ tz ≠ 0 ∧ s1.toks ≠ tz := by
    have : k = 0 ∨ k = 1 ∨ k = 2 := by omega
    rcases this with rfl | rfl | rfl
    · have e5 : a = z := Option.some.inj hz
      exact ⟨s1.toks + 1, by rw [e5]; rfl, (by show s1.toks + 1 ≠ 0; omega), (by show s1.toks ≠ s1.toks + 1; omega)⟩
    · have e5 : b = z := Option.some.inj hz
      exact ⟨s1.toks + 1 + 1, by rw [e5]; rfl, (by show s1.toks + 1 + 1 ≠ 0; omega), (by show s1.toks ≠ s1.toks + 1 + 1; omega)⟩
    · have e5 : c = z := Option.some.inj hz
      exact ⟨s1.toks + 1 + 1 + 1, by rw [e5]; rfl, (by show s1.toks + 1 + 1 + 1 ≠ 0; omega), (by show s1.toks ≠ s1.toks + 1 + 1 + 1; omega)⟩
  obtain ⟨tz, hi, t0, t1⟩ := item
  refine item_listR hl (by omega) (by omega) hi ?_ (hs _ _)
  refine Calls.spliced_nil ?_
  exact PySem.SC.replaceA (by show s1.toks ≠ 0; omega) t0 t1 hb (fun t' k => ⟨.str (Txt.replace x y z), H2, I3.tok k, ⟨t', rfl⟩, q3⟩) (U.none I3.kIn)
end
end TC

namespace TC
open PySem PySem.Spec PyProof.Rows L2
/-! ### cutting at a sign -/
def cuts (c : Nat) : List Nat → List (List Nat)
  | [] => [[]]
  | x :: l => if x = c then [] :: cuts c l else (x :: (cuts c l).headD []) :: (cuts c l).tail
theorem cuts_ne (c : Nat) : ∀ l, cuts c l ≠ []
  | [] => by simp [cuts]
  | x :: l => by
    unfold cuts
    split <;> simp
theorem cuts_eq (c : Nat) (l : List Nat) : (cuts c l).headD [] :: (cuts c l).tail = cuts c l := by
  cases e : cuts c l with
  | nil => exact absurd e (cuts_ne c l)
  | cons p r => rfl
theorem cuts_free (c : Nat) : ∀ l, ∀ p ∈ cuts c l, c ∉ p
  | [], p, h => by
    rw [List.mem_singleton.mp (show p ∈ [[]] from h)]
    simp
  | x :: l, p, h => by
    unfold cuts at h
    split at h
    · rcases List.mem_cons.mp h with e | h
      · rw [e]; simp
      · exact cuts_free c l p h
    · rename_i hx
      rcases List.mem_cons.mp h with e | h
      · have q := cuts_free c l ((cuts c l).headD []) (by rw [← cuts_eq c l]; exact List.mem_cons_self)
        rw [e]
        intro hm
        rcases List.mem_cons.mp hm with e2 | hm
        · exact hx e2.symm
        · exact q hm
      · exact cuts_free c l p (List.mem_of_mem_tail h)
theorem cuts_join (c : Nat) : ∀ l, TL.joinL [c] (cuts c l) = l
  | [] => rfl
  | x :: l => by
    have ih := cuts_join c l
    unfold cuts
    split
    · rename_i hx
      cases e : cuts c l with
      | nil => exact absurd e (cuts_ne c l)
      | cons p r =>
        rw [e] at ih
        show [] ++ ([c] ++ TL.joinL [c] (p :: r)) = x :: l
        rw [ih, hx]
        rfl
    · cases e : cuts c l with
      | nil => exact absurd e (cuts_ne c l)
      | cons p r =>
        rw [e] at ih
        show TL.joinL [c] ((x :: p) :: r) = x :: l
        cases r with
        | nil =>
          have ih' : p = l := ih
          show x :: p = x :: l
          rw [ih']
        | cons p2 r2 =>
          have ih' : p ++ ([c] ++ TL.joinL [c] (p2 :: r2)) = l := ih
          show (x :: p) ++ ([c] ++ TL.joinL [c] (p2 :: r2)) = x :: l
          rw [← ih'] <;> rfl
theorem spl_cuts (c : Nat) (l : List Nat) : TL.spl [c] 0 [] l = cuts c l := by
  have q := TL.spl_join (s := c) (S := []) (cuts_ne c l) (cuts_free c l)
  rw [cuts_join] at q
  exact q
theorem cuts_app (c : Nat) (b : List Nat) : ∀ a, cuts c (a ++ c :: b) = cuts c a ++ cuts c b
  | [] => by
    show cuts c (c :: b) = [[]] ++ cuts c b
    rw [cuts, if_pos rfl]
    rfl
  | x :: a => by
    have ih := cuts_app c b a
    show cuts c (x :: (a ++ c :: b)) = cuts c (x :: a) ++ cuts c b
    rw [cuts, cuts, ih]
    by_cases hx : x = c
    · rw [if_pos hx, if_pos hx]
      rfl
    · rw [if_neg hx, if_neg hx]
      cases e : cuts c a with
      | nil => exact absurd e (cuts_ne c a)
      | cons p r => rfl
theorem cuts_one {c : Nat} : ∀ {l : List Nat}, c ∉ l → cuts c l = [l]
  | [], _ => rfl
  | x :: l, h => by
    rw [cuts, if_neg (fun e => h (by rw [e]; exact List.mem_cons_self)), cuts_one fun hm => h (List.mem_cons_of_mem _ hm)]
    rfl
/-- the words of a row -/
def wds (l : List Nat) : List (List Nat) := (cuts 32 l).filter fun p => decide (p ≠ [])
theorem wds_app (a b : List Nat) : wds (a ++ 32 :: b) = wds a ++ wds b := by
  unfold wds
  rw [cuts_app, List.filter_append]
theorem wds_nil : wds [] = [] := rfl
theorem wds_sp (b : List Nat) : wds (32 :: b) = wds b := by
  have q := wds_app [] b
  rw [wds_nil] at q
  exact q
theorem wds_end (a : List Nat) : wds (a ++ [32]) = wds a := by
  have q := wds_app a []
  rw [wds_nil, List.append_nil] at q
  exact q
theorem wds_one {w : List Nat} (h : 32 ∉ w) (hw : w ≠ []) : wds w = [w] := by
  unfold wds
  rw [cuts_one h, List.filter_cons, if_pos (decide_eq_true hw)]
  rfl
/-- blanks ahead -/
theorem wds_blanks (b : List Nat) : ∀ z : List Nat, (∀ x ∈ z, x = 32) → wds (z ++ b) = wds b
  | [], _ => rfl
  | x :: z, h => by
    have e := h x List.mem_cons_self
    subst e
    show wds (32 :: (z ++ b)) = wds b
    rw [wds_sp]
    exact wds_blanks b z fun y hy => h y (List.mem_cons_of_mem _ hy)
theorem wds_tail (a : List Nat) : ∀ z : List Nat, (∀ x ∈ z, x = 32) → wds (a ++ z) = wds a
  | [], _ => by rw [List.append_nil]
  | x :: z, h => by
    have e := h x List.mem_cons_self
    subst e
    rw [wds_app]
    have q := wds_tail [] z fun y hy => h y (List.mem_cons_of_mem _ hy)
    rw [List.nil_append, wds_nil] at q
    rw [q, List.append_nil]
/-- words joined by blanks -/
theorem wds_join {z : List Nat} (hz : z ≠ []) (hb : ∀ x ∈ z, x = 32) : ∀ ws : List (List Nat), (∀ w ∈ ws, 32 ∉ w ∧ w ≠ []) → wds (TL.joinL z ws) = ws
  | [], _ => rfl
  | [w], h => wds_one (h w (by simp)).1 (h w (by simp)).2
  | w :: w2 :: r, h => by
    have ih := wds_join hz hb (w2 :: r) fun u hu => h u (List.mem_cons_of_mem _ hu)
    obtain ⟨x, z', rfl⟩ : ∃ x z', z = x :: z' := by
      cases z with
      | nil => exact absurd rfl hz
      | cons x z' => exact ⟨x, z', rfl⟩
    have e := hb x List.mem_cons_self
    subst e
    show wds (w ++ (32 :: z' ++ TL.joinL (32 :: z') (w2 :: r))) = w :: w2 :: r
    show wds (w ++ 32 :: (z' ++ TL.joinL (32 :: z') (w2 :: r))) = w :: w2 :: r
    rw [wds_app, wds_one (h w (by simp)).1 (h w (by simp)).2, wds_blanks _ z' fun y hy => hb y (List.mem_cons_of_mem _ hy), ih]
    rfl
/-- the rows that stand in a text: their words, without the empty ones -/
def rowsT (l : List Nat) : List (List (List Nat)) := ((cuts 10 l).map wds).filter fun p => decide (p ≠ [])
theorem rowsT_app (a b : List Nat) : rowsT (a ++ 10 :: b) = rowsT a ++ rowsT b := by
  unfold rowsT
  rw [cuts_app, List.map_append, List.filter_append]
theorem rowsT_row {a : List Nat} (h : 10 ∉ a) (hw : wds a ≠ []) : rowsT a = [wds a] := by
  unfold rowsT
  rw [cuts_one h]
  show ([wds a]).filter _ = _
  rw [List.filter_cons, if_pos (decide_eq_true hw)]
  rfl
theorem rowsT_blank {a : List Nat} (h : 10 ∉ a) (hw : wds a = []) : rowsT a = [] := by
  unfold rowsT
  rw [cuts_one h]
  show ([wds a]).filter _ = _
  rw [List.filter_cons, hw]
  rfl
/-! ### blanks for a blank -/
theorem repl_blank (z : List Nat) : ∀ l : List Nat, PySem.StrLaws.replL [32] z l = l.flatMap fun x => if x = 32 then z else [x]
  | [] => rfl
  | c :: r => by
    by_cases h : c = 32
    · subst h
      rw [PySem.StrLaws.replL_hit (by simp) rfl, List.flatMap_cons, if_pos rfl]
      show z ++ PySem.StrLaws.replL [32] z r = _
      rw [repl_blank z r]
    · rw [PySem.StrLaws.replL_miss (fun e => h (by injection e)), List.flatMap_cons, if_neg h, repl_blank z r]
      rfl
theorem flat_free {z w : List Nat} (h : 32 ∉ w) : (w.flatMap fun x => if x = 32 then z else [x]) = w := by
  induction w with
  | nil => rfl
  | cons x w ih =>
    rw [List.flatMap_cons, if_neg (fun e => h (by rw [e]; exact List.mem_cons_self)), ih fun hm => h (List.mem_cons_of_mem _ hm)]
    rfl
theorem repl_join {z : List Nat} : ∀ ws : List (List Nat), (∀ w ∈ ws, 32 ∉ w) → ((TL.joinL [32] ws).flatMap fun x => if x = 32 then z else [x]) = TL.joinL z ws
  | [], _ => rfl
  | [w], h => flat_free (h w (by simp))
  | w :: w2 :: r, h => by
    have ih := repl_join (z := z) (w2 :: r) fun u hu => h u (List.mem_cons_of_mem _ hu)
    show ((w ++ ([32] ++ TL.joinL [32] (w2 :: r))).flatMap fun x => if x = 32 then z else [x]) = w ++ (z ++ TL.joinL z (w2 :: r))
    rw [List.flatMap_append, List.flatMap_append, flat_free (h w (by simp)), ih]
    have e : ([32].flatMap fun x => if x = 32 then z else [x]) = z := by simp
    rw [e]
end TC

namespace TC
open PySem PySem.Spec PyProof.Rows L2
def top (i : Nat) : Stmt := PySem.Challenge.pw_talkcourt_k16_books_read.main.body.getD i (.Pass ⟨0, 0, 0, 0⟩)
abbrev s_Book__init : Stmt := inClass (top 1) 0
abbrev sc_Book__init_N : List Str := ["self", "answers", "again", "doubts", "speaks", "other"]
theorem sc_Book__init : FnScope sc_Book__init_N ["self", "answers", "again", "doubts", "speaks", "other"] (defScope s_Book__init) := ⟨rfl, rfl, rfl, by decide +kernel, rfl, by decide +kernel, by decide +kernel⟩
abbrev s_fields_of : Stmt := top 2
abbrev sc_fields_of_N : List Str := ["book"]
theorem sc_fields_of : FnScope sc_fields_of_N ["book"] (defScope s_fields_of) := ⟨rfl, rfl, rfl, by decide +kernel, rfl, by decide +kernel, by decide +kernel⟩
abbrev s_same_book : Stmt := top 3
abbrev sc_same_book_N : List Str := ["one", "other"]
theorem sc_same_book : FnScope sc_same_book_N ["one", "other"] (defScope s_same_book) := ⟨rfl, rfl, rfl, by decide +kernel, rfl, by decide +kernel, by decide +kernel⟩
abbrev s_NoBook__init : Stmt := inClass (top 6) 0
abbrev sc_NoBook__init_N : List Str := ["self", "row"]
theorem sc_NoBook__init : FnScope sc_NoBook__init_N ["self", "row"] (defScope s_NoBook__init) := ⟨rfl, rfl, rfl, by decide +kernel, rfl, by decide +kernel, by decide +kernel⟩
abbrev s_sort_of : Stmt := top 10
abbrev sc_sort_of_N : List Str := ["words"]
theorem sc_sort_of : FnScope sc_sort_of_N ["words"] (defScope s_sort_of) := ⟨rfl, rfl, rfl, by decide +kernel, rfl, by decide +kernel, by decide +kernel⟩
abbrev s_read_book : Stmt := top 11
abbrev sc_read_book_N : List Str := ["text", "told", "rows", "number", "row", "words", "sort", "answers", "again", "word"]
theorem sc_read_book : FnScope sc_read_book_N ["text"] (defScope s_read_book) := ⟨rfl, rfl, rfl, by decide +kernel, rfl, by decide +kernel, by decide +kernel⟩
abbrev s_show_book : Stmt := top 12
abbrev sc_show_book_N : List Str := ["book", "rows"]
theorem sc_show_book : FnScope sc_show_book_N ["book"] (defScope s_show_book) := ⟨rfl, rfl, rfl, by decide +kernel, rfl, by decide +kernel, by decide +kernel⟩
abbrev s_law_deal : Stmt := top 14
abbrev sc_law_deal_N : List Str := ["_law_script", "_law_base", "_law_cell", "_law_cells", "_law_number"]
theorem sc_law_deal : FnScope sc_law_deal_N ["_law_script", "_law_base"] (defScope s_law_deal) := ⟨rfl, rfl, rfl, by decide +kernel, rfl, by decide +kernel, by decide +kernel⟩
abbrev s_law_draw : Stmt := top 15
abbrev sc_law_draw_N : List Str := ["_law_deal_here", "_law_many", "_law_number", "_law_one", "_law_other"]
theorem sc_law_draw : FnScope sc_law_draw_N ["_law_deal_here", "_law_many"] (defScope s_law_draw) := ⟨rfl, rfl, rfl, by decide +kernel, rfl, by decide +kernel, by decide +kernel⟩
abbrev s_law_fields : Stmt := top 16
abbrev sc_law_fields_N : List Str := ["_law_book"]
theorem sc_law_fields : FnScope sc_law_fields_N ["_law_book"] (defScope s_law_fields) := ⟨rfl, rfl, rfl, by decide +kernel, rfl, by decide +kernel, by decide +kernel⟩
abbrev s_law : Stmt := top 17
abbrev sc_law_N : List Str := ["_law_script", "_law_deal_here", "_law_reach", "_law_times", "_law_told", "_law_rows", "_law_left", "_law_text", "_law_row", "_law_book", "_law_made", "_law_other", "_law_more"]
theorem sc_law : FnScope sc_law_N ["_law_script"] (defScope s_law) := ⟨rfl, rfl, rfl, by decide +kernel, rfl, by decide +kernel, by decide +kernel⟩
/-- the def st stands under its name -/
structure DefAt (K : PySem.W.Frag) (mg : Str → Option Value) (x : Str) (st : Stmt) (ps : List Str) : Prop where
  ex : ∃ f fd, Fun K x x st f fd ∧ mg x = some (.ref f) ∧ Binds K fd ps []
theorem DefAt.cal {P : Program} {w : World} {K : PySem.W.Frag} {mg : Str → Option Value} {base : Heap} {x : Str} {st : Stmt} {ps : List Str} {k : Nat} {sp : Sp} (D : DefAt K mg x st ps) (h : ∀ f fd, Fun K x x st f fd → FnOk P w K mg base CX0 k f fd ps sp) : C8.Cal P w K mg base k x sp [] := by
  obtain ⟨f, fd, F, m, b⟩ := D.ex
  exact ⟨f, fd, ps, [], h f fd F, m, F.kp, b, .nil⟩
def spLaw (K : PySem.W.Frag) : Sp := fun vs H Q _ => ∃ (a : Addr) (ns : List Int), vs = [.ref a] ∧ SqL K H a (ns.map V.int) ∧ ns.length ≤ 63 ∧ ∀ H', Q (.bl true) H'
/-- the class Book -/
structure BookAt (K : PySem.W.Frag) (C : Addr) : Prop where
  ins : C8.InsC K C
  made : ∃ f fd, Mk K C f ∧ FunD K "__init__" "Book.__init__" (defArgs s_Book__init) (defBody s_Book__init) (defScope s_Book__init) [.str "last"] [] f fd
  n1 : NoAttr K C "answers"
  n2 : NoAttr K C "again"
  n3 : NoAttr K C "doubts"
  n4 : NoAttr K C "speaks"
  n5 : NoAttr K C "other"
theorem strKeys_by {es : Array DictEntry} (h : es.toList.all (fun e => match e.key with | .str _ _ => true | _ => false) = true) : StrKeys es := fun e he => by
  have q := List.all_eq_true.mp h e (Array.mem_toList_iff.mpr he)
  revert q
  cases e.key with
  | str n t => exact fun _ => ⟨n, t, rfl⟩
  | _ => exact fun q => Bool.noConfusion q
theorem kit_self {K : PySem.W.Frag} {C : Addr} : PySem.W.kitOne K (.ref C) (.ref C) = some true := by
  unfold PySem.W.kitOne
  rw [if_pos (by simp)]
/-! ### what the top leaves -/
structure Top (w : World) (K : PySem.W.Frag) (mg : Str → Option Value) : Prop where
  d_fields_of : DefAt K mg "fields_of" s_fields_of ["book"]
  d_same_book : DefAt K mg "same_book" s_same_book ["one", "other"]
  d_sort_of : DefAt K mg "sort_of" s_sort_of ["words"]
  d_read_book : DefAt K mg "read_book" s_read_book ["text"]
  d_show_book : DefAt K mg "show_book" s_show_book ["book"]
  d_law_deal : DefAt K mg "_law_deal" s_law_deal ["_law_script", "_law_base"]
  d_law_draw : DefAt K mg "_law_draw" s_law_draw ["_law_deal_here", "_law_many"]
  d_law_fields : DefAt K mg "_law_fields" s_law_fields ["_law_book"]
  d_law : DefAt K mg "law" s_law ["_law_script"]
  z_len : mg "len" = none
  z_max : mg "max" = none
  z_list : mg "list" = none
  z_reversed : mg "reversed" = none
  z_isinstance : mg "isinstance" = none
  z_enumerate : mg "enumerate" = none
  z_str : mg "str" = none
  cB : ∃ C, mg "Book" = some (.ref C) ∧ BookAt K C
  g_REACH : ∃ t, mg "REACH" = some (.ref t) ∧ SqT K (fun _ => none) t [.str "last", .str "any"]
  g_TIMES : ∃ t, mg "TIMES" = some (.ref t) ∧ SqT K (fun _ => none) t [.str "once", .str "often"]
  unb : Unbooked K
/-! ### the deal -/
abbrev kSeed : Key := Sum.inr "seed"
abbrev kNum : Key := Sum.inr "number"
abbrev kLeft : Key := Sum.inr "left"
def dl (s n : Int) (l : Addr) : List (Key × V) := [(kSeed, .int s), (kNum, .int n), (kLeft, .ref l)]
theorem ks_n : ¬ Str.ofString "seed" = Str.ofString "number" := by decide +kernel
theorem ks_l : ¬ Str.ofString "seed" = Str.ofString "left" := by decide +kernel
theorem kn_s : ¬ Str.ofString "number" = Str.ofString "seed" := by decide +kernel
theorem kn_l : ¬ Str.ofString "number" = Str.ofString "left" := by decide +kernel
theorem kl_s : ¬ Str.ofString "left" = Str.ofString "seed" := by decide +kernel
theorem kl_n : ¬ Str.ofString "left" = Str.ofString "number" := by decide +kernel
theorem dl_seed (s n : Int) (l : Addr) : valV (dl s n l) kSeed = some (.int s) := by simp [valV, dl]
theorem dl_num (s n : Int) (l : Addr) : valV (dl s n l) kNum = some (.int n) := by simp [valV, dl, ks_n]
theorem dl_left (s n : Int) (l : Addr) : valV (dl s n l) kLeft = some (.ref l) := by simp [valV, dl, ks_l, kn_l]
theorem dl_putN (s n m : Int) (l : Addr) : putK (dl s n l) kNum (.int m) = dl s m l := by simp [putK, dl, ks_n, kl_n]
theorem dl_putS (s n m : Int) (l : Addr) : putK (dl s n l) kSeed (.int m) = dl m n l := by simp [putK, dl, kn_s, kl_s]
theorem dl_merge (s n : Int) (l : Addr) : mergeK [] (dl s n l) = dl s n l := by simp [mergeK, putK, dl, ks_n, ks_l, kn_l]
def DealIs (H : Hp) (d l : Addr) (s n : Int) (left : List Int) : Prop :=
  H d = some (.dK (dl s n l)) ∧ H l = some (.lst (left.map V.int)) ∧ 0 ≤ s ∧ s < 2147483647 ∧ 0 ≤ n ∧ (∀ c ∈ left, 0 ≤ c) ∧ left.length ≤ 63
theorem get_num {H : Hp} {d l : Addr} {s n : Int} (h : H d = some (.dK (dl s n l))) : DGet H d (.str "number") (some (.int n)) := by
  have q := DGet.k (k := kNum) h
  rw [dl_num] at q
  exact q
theorem get_left {H : Hp} {d l : Addr} {s n : Int} (h : H d = some (.dK (dl s n l))) : DGet H d (.str "left") (some (.ref l)) := by
  have q := DGet.k (k := kLeft) h
  rw [dl_left] at q
  exact q
theorem get_seed {H : Hp} {d l : Addr} {s n : Int} (h : H d = some (.dK (dl s n l))) : DGet H d (.str "seed") (some (.int s)) := by
  have q := DGet.k (k := kSeed) h
  rw [dl_seed] at q
  exact q
theorem put_num {H : Hp} {d l : Addr} {s n m : Int} (h : H d = some (.dK (dl s n l))) : DPut H d (.str "number") (.int m) (upd H d (.dK (dl s m l))) := by
  have q := DPut.k (k := kNum) (v := .int m) h (by show 3 < sizeLine; decide)
  rw [dl_putN] at q
  exact q
theorem put_seed {H : Hp} {d l : Addr} {s n m : Int} (h : H d = some (.dK (dl s n l))) : DPut H d (.str "seed") (.int m) (upd H d (.dK (dl m n l))) := by
  have q := DPut.k (k := kSeed) (v := .int m) h (by show 3 < sizeLine; decide)
  rw [dl_putS] at q
  exact q
/-- a deal stands at d, its list at l -/
def DealAt (H : Hp) (d l : Addr) : Prop := ∃ s n left, DealIs H d l s n left
/-- nothing but d, l has changed -/
def But (d l : Addr) (H H' : Hp) : Prop := ∀ b, b ≠ d → b ≠ l → H' b = H b
theorem But.refl (d l : Addr) (H : Hp) : But d l H H := fun _ _ _ => rfl
theorem But.upd1 {d l : Addr} {H H' : Hp} {o : HO} (h : But d l H H') : But d l H (upd H' d o) := fun b h1 h2 => by rw [upd_ne h1]; exact h b h1 h2
theorem But.upd2 {d l : Addr} {H H' : Hp} {o : HO} (h : But d l H H') : But d l H (upd H' l o) := fun b h1 h2 => by rw [upd_ne h2]; exact h b h1 h2
theorem But.trans {d l : Addr} {H H1 H2 : Hp} (a : But d l H H1) (b : But d l H1 H2) : But d l H H2 := fun c h1 h2 => (b c h1 h2).trans (a c h1 h2)
/-! ### what stays when the deal goes on -/
def Old (d l : Addr) (H H' : Hp) : Prop := ∀ b o, H b = some o → b ≠ d → b ≠ l → H' b = some o
theorem Old.but {d l : Addr} {H H' : Hp} (b : But d l H H') : Old d l H H' := fun c o h h1 h2 => by rw [b c h1 h2]; exact h
def spDraw : Sp := fun vs H Q _ => ∃ (d l : Addr) (m : Int), vs = [.ref d, .int m] ∧ DealAt H d l ∧ 1 ≤ m ∧ m < 1000000 ∧
  ∀ (r : Int) (H' : Hp), 0 ≤ r → r < m → DealAt H' d l → Old d l H H' → Q (.int r) H'
section
variable {P : Program} {w : World} {K : PySem.W.Frag} {mg : Str → Option Value} {base : Heap}
theorem ok_draw {f : Addr} {fd : FuncData} (F : Fun K "_law_draw" "_law_draw" s_law_draw f fd) (T : Top w K mg) : FnOk P w K mg base CX0 1 f fd ["_law_deal_here", "_law_many"] spDraw := by
  refine F.ok sc_law_draw (fun vs H Q E h => ?_) (fun cdv A outer s H vs Q E hr h => ?_)
  · obtain ⟨d, l, m, rfl, _⟩ := h
    rfl
  have hu := hu_of hr
  obtain ⟨d, l, m, rfl, ⟨sd, nm, left, hD⟩, h1, h2, q⟩ := h
  refine ⟨_, (C8.pss_cut (ps_while PassesOwn.never (PW.pt (pw_and (pt_cmpR op_eq (pe_dget hu (pv 0) pe_str (fun _ _ => rfl)) pe_int (nomark _)) (pw_and1 (pt_cmpR op_gt (pe_callB call_len_seq (by rfl) T.z_len PySem.boot_len (pa_cons (pe_dget hu (pv 0) pe_str (fun _ _ => rfl)) pa_nil)) pe_int (nomark _)))))
    (pss_one (ps_dput hu (pv 0) pe_str (pe_bm0 PySem.F.plainAttrs_list PySem.F.slot_list_pop PySem.F.type_list_pop mt_pop (pe_dget hu (pv 0) pe_str (fun _ _ => rfl))) rfl)))
  (pss_cons (ps_set (i := 2) sc_law_draw.nd rfl (Or.inl rfl) (pe_dget hu (pv 0) pe_str (fun _ _ => rfl)))
  (pss_cons (ps_if (pt_cmpR op_gt (pv 2) pe_int (nomark _))
    (pss_cons (ps_dput hu (pv 0) pe_str (pe_op op_fdiv (pv 2) (pv 1)) rfl)
    (pss_one (ps_ret (pe_op op_mod (pv 2) (pv 1)))))
    pss_nil)
  (pss_cons (ps_set (i := 3) sc_law_draw.nd rfl (Or.inl rfl) (pe_op op_mod (pe_op op_add (pe_op op_mul (pe_dget hu (pv 0) pe_str (fun _ _ => rfl)) pe_int) pe_int) pe_int))
  (pss_cons (ps_dput hu (pv 0) pe_str (pe_op op_mod (pe_op op_add (pe_op op_mul (pv 3) pe_int) pe_int) pe_int) rfl)
  (pss_cons (ps_set (i := 4) sc_law_draw.nd rfl (Or.inl rfl) (pe_op op_mod (pe_op op_mul (pe_dget hu (pv 0) pe_str (fun _ _ => rfl)) (pe_dget hu (pv 0) pe_str (fun _ _ => rfl))) pe_int))
  (pss_one (ps_ret (pe_op op_mod (pe_op op_add (pe_op op_mul (pe_op op_mod (pe_op op_mul (pv 3) (pv 3)) pe_int) pe_int) (pv 4)) (pv 1)))))))))), ?_⟩
  refine ⟨fun σ H' => σ = [some (.ref d), some (.int m), none, none, none] ∧ DealAt H' d l ∧ But d l H H', ?_, ?_⟩
  · refine ⟨fun k σ H' => σ = [some (.ref d), some (.int m), none, none, none] ∧ ∃ n left, k = left.length ∧ DealIs H' d l sd n left ∧ But d l H H', ⟨left.length, rfl, nm, left, rfl, hD, But.refl _ _ _⟩, ?_⟩
    rintro k σ H1 ⟨rfl, n, lf, rfl, D, B⟩
    obtain ⟨hd, hl, s0, s1, n0, c0, cl⟩ := id D
    have hdl : d ≠ l := ne_of hd hl (by intro z; cases z)
    refine ⟨_, rfl, d, _, rfl, get_num hd, rfl, _, rfl, ?_⟩
    refine ite2 (fun c => ?_) (fun c => ⟨rfl, ⟨sd, n, lf, D⟩, B⟩)
    have en : n = 0 := V.int.inj (of_decide_eq_true c)
    subst en
    refine ⟨_, rfl, d, _, rfl, get_left hd, l, _, rfl, .inl (SqL.of hl), _, _, rfl, rfl, _, rfl, ?_⟩
    refine ite2 (fun c => ?_) (fun c => ⟨rfl, ⟨sd, 0, lf, D⟩, B⟩)
    have c' : (0 : Int) < (((lf.map V.int).length : Nat) : Int) := of_decide_eq_true c
    rw [List.length_map] at c'
    have hx : (lf.map V.int)[(lf.map V.int).length - 1]? = some (.int lf[lf.length - 1]) := by
      rw [List.length_map, List.getElem?_map, List.getElem?_eq_getElem (by omega)] <;> rfl
    refine ⟨fun σ' H' => ∃ m', m' < lf.length ∧ _, fun _ _ q => q, ?_⟩
    refine ⟨_, rfl, d, _, rfl, get_left hd, .inl ⟨rfl, _, SqL.of hl⟩, l, _, _, rfl, rfl, hl, hx, _, rfl, d, _, rfl, put_num (by rw [upd_ne hdl]; exact hd), ?_⟩
    refine ⟨lf.dropLast.length, by rw [List.length_dropLast]; omega, rfl, lf[lf.length - 1], lf.dropLast, rfl, ⟨upd_same, ?_, s0, s1, c0 _ (List.getElem_mem _), fun x hx => c0 x (List.dropLast_subset _ hx), by rw [List.length_dropLast]; omega⟩, (B.upd2).upd1⟩
    rw [upd_ne (Ne.symm hdl), upd_same, List.map_dropLast]
  · rintro σ H1 ⟨rfl, ⟨sd, n, lf, D⟩, B⟩
    obtain ⟨hd, hl, s0, s1, n0, c0, cl⟩ := id D
    have hdl : d ≠ l := ne_of hd hl (by intro z; cases z)
    refine ⟨_, rfl, d, _, rfl, get_num hd, ?_⟩
    refine ⟨_, rfl, _, _, rfl, rfl, _, rfl, ?_⟩
    refine ite2 (fun c => ?_) (fun c => ?_)
    · have c' : 0 < n := of_decide_eq_true c
      refine ⟨_, rfl, _, rfl, _, _, rfl, rfl, ⟨by omega, by omega⟩, _, rfl, d, _, rfl, put_num hd, ?_⟩
      refine ⟨_, rfl, _, rfl, _, _, rfl, rfl, by omega, ?_⟩
      exact q _ _ (Int.emod_nonneg _ (by omega)) (Int.emod_lt_of_pos _ (by omega)) ⟨sd, n / m, lf, upd_same, by rw [upd_ne (Ne.symm hdl)]; exact hl, s0, s1, Int.ediv_nonneg n0 (by omega), c0, cl⟩ (Old.but B.upd1)
    · refine ⟨_, rfl, d, _, rfl, get_seed hd, _, _, rfl, rfl, .inr ⟨by decide, by decide⟩, _, _, rfl, rfl, _, _, rfl, rfl, (show (0 : Int) < 2147483647 by decide), ?_⟩
      refine ⟨_, rfl, _, _, rfl, rfl, .inr ⟨by decide, by decide⟩, _, _, rfl, rfl, _, _, rfl, rfl, (show (0 : Int) < 2147483399 by decide), _, rfl, d, _, rfl, put_seed hd, ?_⟩
      have hd2 : ∀ z, (upd H1 d (.dK (dl z n l))) d = some (.dK (dl z n l)) := fun _ => upd_same
      refine ⟨_, rfl, d, _, rfl, get_seed (hd2 _), _, rfl, d, _, rfl, get_seed (hd2 _), _, _, rfl, rfl, .inr ⟨by omega, by omega⟩, _, _, rfl, rfl, (show (0 : Int) < 2147483563 by decide), ?_⟩
      refine ⟨_, rfl, _, rfl, _, _, rfl, rfl, .inr ⟨by omega, by omega⟩, _, _, rfl, rfl, (show (0 : Int) < 2147483629 by decide), _, _, rfl, rfl, .inr ⟨by decide, by decide⟩, _, rfl, _, _, rfl, rfl, _, rfl, _, _, rfl, rfl, (by omega : (0 : Int) < m), ?_⟩
      refine q _ _ (Int.emod_nonneg _ (by omega)) (Int.emod_lt_of_pos _ (by omega)) ⟨_, n, lf, hd2 _, by rw [upd_ne (Ne.symm hdl)]; exact hl, by omega, by omega, n0, c0, cl⟩ (Old.but B.upd1)
def spDeal (K : PySem.W.Frag) : Sp := fun vs H Q _ => ∃ (a : Addr) (ns : List Int), vs = [.ref a, .int 0] ∧ SqL K H a (ns.map V.int) ∧ ns.length ≤ 63 ∧
  ∀ (d l : Addr) (H' : Hp), DealAt H' d l → Same H H' → H d = none → H l = none → Q (.ref d) H'
theorem cut_ints (ns : List Int) (i j : Option Int) : ∃ ms : List Int, cutV (ns.map V.int) i j = ms.map V.int ∧ ms.length ≤ ns.length := by
  refine ⟨(ns.drop (HT.sIx (ns.map V.int).length 0 i)).take (HT.sIx (ns.map V.int).length (ns.map V.int).length j - HT.sIx (ns.map V.int).length 0 i), ?_, ?_⟩
  · unfold cutV
    rw [List.map_take, List.map_drop]
  · rw [List.length_take, List.length_drop]
    omega
theorem same_up {H : Hp} {p : Addr} (h : H p = none) (o : HO) : Same H (upd H p o) := fun b u q => by rw [upd_ne (ne_of_none q h)]; exact q
theorem ok_deal {f : Addr} {fd : FuncData} (F : Fun K "_law_deal" "_law_deal" s_law_deal f fd) (T : Top w K mg) : FnOk P w K mg base CX0 1 f fd ["_law_script", "_law_base"] (spDeal K) := by
  refine F.ok sc_law_deal (fun vs H Q E h => ?_) (fun cdv A outer s H vs Q E hr h => ?_)
  · obtain ⟨a, ns, rfl, _⟩ := h
    rfl
  have hu := hu_of hr
  obtain ⟨a, ns, rfl, hS, h63, q⟩ := h
  refine ⟨_, (pss_cons (ps_setLc (i := 3) (own := [("_law_cell", 2)]) (g := gName 2) (tt := tYes) (by rfl) sc_law_deal.nd rfl rfl (sw_true rfl rfl rfl (by decide +kernel)) (pi_list (pe_slice sl_list (pv 0) (po_some (pv 1)) (po_some pe_int))) (blkOk_by (N := sc_law_deal_N) (sc := defScope s_law_deal) (by decide +kernel)) (fun _ _ _ _ _ => pg_name (i := 2) sc_law_deal.nd rfl (Or.inl rfl)) (fun _ _ _ _ _ => pts_nil) (fun _ _ _ _ _ => (pe_callB (call_max2 rfl) (by rfl) T.z_max (by decide +kernel) (pa_cons (pv 2) (pa_cons (pe_op op_sub pe_int (pv 2)) pa_nil)))))
  (pss_cons (ps_set (i := 4) sc_law_deal.nd rfl (Or.inl rfl) (pe_op op_add pe_int (pv 1)))
  (pss_cons (ps_for PassesOwn.never rfl (pi_list (pv 3)) (pg_name (i := 2) sc_law_deal.nd rfl (Or.inl rfl))
    (pss_one (ps_set (i := 4) sc_law_deal.nd rfl (Or.inl rfl) (pe_op op_mod (pe_op op_add (pe_op op_mul (pv 4) pe_int) (pe_op op_mod (pv 2) pe_int)) pe_int))))
  (pss_one (ps_ret (pe_disp (pps_cons pe_str (pv 4) (pps_cons pe_str pe_int (pps_cons pe_str (pe_listRev rfl (by rfl) T.z_list (by rfl) T.z_reversed (pe_lc (own := [("_law_cell", 2)]) (g := gName 2)  (by rfl) sc_law_deal.nd (pi_list (pv 3)) (blkOk_by (N := sc_law_deal_N) (sc := defScope s_law_deal) (by decide +kernel)) (fun _ _ _ _ _ => pg_name (i := 2) sc_law_deal.nd rfl (Or.inl rfl)) (fun _ _ _ _ _ => pts_one (pt_cmpR op_ge (pv 2) (pe_op op_pow pe_int pe_int) (nomark _))) (fun _ _ _ _ _ => (pv 2)))) pps_nil))) (by rfl) (by rfl) (fun z => by cases z) (by decide))))))), ?_⟩
  obtain ⟨ms, em, hm⟩ := cut_ints ns (some 0) (some 63)
  refine ⟨_, rfl, _, rfl, _, rfl, _, rfl, a, _, rfl, hS, fun p hp => ⟨p, rfl, ⟨_, SqL.of upd_same⟩, fun D hD => ?_⟩⟩
  rw [em] at hD ⊢
  have npD : p ≠ D := fun e => by rw [← e, upd_same] at hD; cases hD
  have hD0 : H D = none := by rw [upd_ne (Ne.symm npD)] at hD; exact hD
  refine lc_list (K := K) (a := p) (xs := ms.map V.int) (fun i H' => ∃ cs : List Int, H' D = some (.lst (cs.map V.int)) ∧ H' p = some (.lst (ms.map V.int)) ∧ Same H H' ∧ (∀ c ∈ cs, 0 ≤ c) ∧ cs.length ≤ i)
    ⟨[], upd_same, by rw [upd_ne npD]; exact upd_same, (same_up hp _).trans (same_up hD _), fun _ z => (by cases z), Nat.le_refl _⟩ (fun i H' _ z => SqL.of z.choose_spec.2.1) ?_ ?_
  · rintro i x H' hi ⟨cs, h1, h2, s1, c0, cl⟩
    have hil := (List.getElem?_eq_some_iff.mp hi).1
    rw [List.length_map] at hil
    rw [List.getElem?_map] at hi
    obtain ⟨z, hz, rfl⟩ := Option.map_eq_some_iff.mp hi
    refine ⟨rfl, ?_⟩
    refine ⟨_, rfl, _, rfl, _, _, rfl, rfl, _, _, rfl, cs.map V.int, h1, ?_, ?_⟩
    · rw [List.length_map]
      exact small1000 (by omega)
    · refine ⟨cs ++ [if 0 - z > z then 0 - z else z], by rw [upd_same, List.map_append]; rfl, by rw [upd_ne npD]; exact h2, ?_, ?_, ?_⟩
      · intro b u e
        by_cases hb : b = D
        · rw [hb, hD0] at e
          cases e
        · rw [upd_ne hb]
          exact s1 b u e
      · intro c hc
        rcases List.mem_append.mp hc with hc | hc
        · exact c0 c hc
        · rw [List.mem_singleton.mp hc]
          split <;> omega
      · rw [List.length_append, List.length_singleton]
        omega
  · rintro H1 ⟨cs, h1, h2, s1, c0, cl⟩
    rw [List.length_map] at cl
    refine ⟨_, rfl, _, _, rfl, rfl, _, rfl, D, rfl, ⟨_, SqL.of h1⟩, for_list (K := K) (a := D) (xs := cs.map V.int) (fun _ σ H' => H' = H1 ∧ ∃ (v : Option V) (z : Int), σ = [some (.ref a), some (.int 0), v, some (.ref D), some (.int z)] ∧ 0 ≤ z ∧ z < 2147483647)
      ⟨rfl, none, 7919 + 0, rfl, by decide, by decide⟩ (fun _ σ H' _ z => by rw [z.1]; exact SqL.of h1) ?_ ?_⟩
    · rintro i y σ H' hi ⟨rfl, v, z, rfl, z0, z1⟩
      rw [List.getElem?_map] at hi
      obtain ⟨c, hc, rfl⟩ := Option.map_eq_some_iff.mp hi
      refine ⟨_, rfl, _, _, rfl, rfl, .inr ⟨by decide, by decide⟩, _, rfl, _, _, rfl, rfl, (show (0 : Int) < 2147483629 by decide), _, _, rfl, rfl, _, _, rfl, rfl, (show (0 : Int) < 2147483647 by decide), ?_⟩
      exact ⟨rfl, _, _, rfl, Int.emod_nonneg _ (by decide), Int.emod_lt_of_pos _ (by decide)⟩
    · rintro σ H' ⟨rfl, v, z, rfl, z0, z1⟩
      intro d hd
      have nDd : D ≠ d := ne_of_none h1 hd
      have hd0 : H d = none := s1.free hd
      refine ⟨_, rfl, _, rfl, D, rfl, ⟨_, SqL.of (by rw [upd_ne nDd]; exact h1)⟩, fun D2 hD2 => ?_⟩
      have ndD2 : d ≠ D2 := fun e => by rw [← e, upd_same] at hD2; cases hD2
      have nDD2 : D ≠ D2 := fun e => by rw [← e, upd_ne nDd, h1] at hD2; cases hD2
      have hD20 : H D2 = none := by
        rw [upd_ne (Ne.symm ndD2)] at hD2
        exact s1.free hD2
      refine lc_list (K := K) (a := D) (xs := cs.map V.int) (fun i H2 => ∃ bs : List Int, H2 D2 = some (.lst (bs.map V.int)) ∧ H2 D = some (.lst (cs.map V.int)) ∧ H2 d = some (.dK []) ∧ Same H H2 ∧ (∀ c ∈ bs, 0 ≤ c) ∧ bs.length ≤ i)
        ⟨[], upd_same, by rw [upd_ne nDD2, upd_ne nDd]; exact h1, by rw [upd_ne ndD2]; exact upd_same, ?_, fun _ z => (by cases z), Nat.le_refl _⟩ (fun i H2 _ z => SqL.of z.choose_spec.2.1) ?_ ?_
      · exact s1.trans ((same_up hd _).trans (same_up hD2 _))
      · rintro i x H2 hi ⟨bs, g1, g2, g3, s2, b0, bl⟩
        have hil := (List.getElem?_eq_some_iff.mp hi).1
        rw [List.length_map] at hil
        rw [List.getElem?_map] at hi
        obtain ⟨c, hc, rfl⟩ := Option.map_eq_some_iff.mp hi
        refine ⟨rfl, _, rfl, _, _, rfl, rfl, ⟨by decide, by decide, by decide⟩, _, _, rfl, rfl, _, rfl, ?_⟩
        refine ite2 (fun hge => ?_) (fun _ => ⟨bs, g1, g2, g3, s2, b0, by omega⟩)
        refine ⟨_, rfl, bs.map V.int, g1, ?_, ?_⟩
        · rw [List.length_map]
          exact small1000 (by omega)
        · refine ⟨bs ++ [c], by rw [upd_same, List.map_append]; rfl, by rw [upd_ne nDD2]; exact g2, by rw [upd_ne ndD2]; exact g3, ?_, ?_, ?_⟩
          · intro b u e
            by_cases hb : b = D2
            · rw [hb, hD20] at e
              cases e
            · rw [upd_ne hb]
              exact s2 b u e
          · intro x hx
            rcases List.mem_append.mp hx with hx | hx
            · exact b0 x hx
            · rw [List.mem_singleton.mp hx]
              exact c0 c (List.mem_of_getElem? hc)
          · rw [List.length_append, List.length_singleton]
            omega
      · rintro H2 ⟨bs, g1, g2, g3, s2, b0, bl⟩
        rw [List.length_map] at bl
        refine ⟨D2, _, rfl, SqL.of g1, fun l hl => ?_⟩
        have nld : l ≠ d := fun e => by rw [e, g3] at hl; cases hl
        refine ⟨by rw [upd_ne (Ne.symm nld)]; exact g3, dl z 0 l, rfl, by show 3 ≤ 15; decide, ?_⟩
        rw [dl_merge]
        refine q d l _ ⟨z, 0, bs.reverse, upd_same, ?_, z0, z1, Int.le_refl 0, fun c hc => b0 c (List.mem_reverse.mp hc), by rw [List.length_reverse]; omega⟩ ?_ hd0 (s2.free hl)
        · rw [upd_ne nld, upd_same, List.map_reverse]
        · intro b u e
          have n1 : b ≠ d := fun z => by rw [z, hd0] at e; cases e
          have n2 : b ≠ l := ne_of_none (s2 _ _ e) hl
          rw [upd_ne n1, upd_ne n2]
          exact s2 b u e
end
theorem Old.refl (d l : Addr) (H : Hp) : Old d l H H := fun _ _ h _ _ => h
theorem Old.trans {d l : Addr} {H H1 H2 : Hp} (a : Old d l H H1) (b : Old d l H1 H2) : Old d l H H2 := fun c o h h1 h2 => b c o (a c o h h1 h2) h1 h2
theorem Old.same {d l : Addr} {H H' : Hp} (e : Same H H') : Old d l H H' := fun c o h _ _ => e c o h
theorem Old.new {d l p : Addr} {H : Hp} {o : HO} (h : H p = none) : Old d l H (upd H p o) := Old.same (same_up h o)
theorem DealAt.same {d l : Addr} {H H' : Hp} (D : DealAt H d l) (e : Same H H') : DealAt H' d l := by
  obtain ⟨s, n, left, h1, h2, q⟩ := D
  exact ⟨s, n, left, e _ _ h1, e _ _ h2, q⟩
theorem DealAt.dK {d l : Addr} {H : Hp} (D : DealAt H d l) : ∃ kvs, H d = some (.dK kvs) := by
  obtain ⟨s, n, left, h1, _⟩ := D
  exact ⟨_, h1⟩
theorem DealAt.lst {d l : Addr} {H : Hp} (D : DealAt H d l) : ∃ xs, H l = some (.lst xs) := by
  obtain ⟨s, n, left, _, h2, _⟩ := D
  exact ⟨_, h2⟩
theorem Old.tk {d l : Addr} {H H' : Hp} (o : Old d l H H') (D : DealAt H d l) : Tk H H' := fun b xs h => by
  obtain ⟨k, hd⟩ := D.dK
  obtain ⟨ys, hl⟩ := D.lst
  rcases h with h | ⟨ob, h⟩
  · exact .inl (o b _ h (ne_of h hd (by intro z; cases z)) (ne_of h hl (by intro z; cases z)))
  · exact .inr ⟨ob, o b _ h (ne_of h hd (by intro z; cases z)) (ne_of h hl (by intro z; cases z))⟩
/-- a list of the caller's -/
structure Mine (d l : Addr) (H : Hp) (p : Addr) (xs : List V) : Prop where
  at_ : H p = some (.lst xs)
  nd : p ≠ d
  nl : p ≠ l
theorem Mine.old {d l p : Addr} {H H' : Hp} {xs : List V} (m : Mine d l H p xs) (o : Old d l H H') : Mine d l H' p xs := ⟨o p _ m.at_ m.nd m.nl, m.nd, m.nl⟩
theorem Mine.new {d l p : Addr} {H : Hp} {xs : List V} (D : DealAt H d l) (h : H p = none) : Mine d l (upd H p (.lst xs)) p xs := by
  obtain ⟨k, hd⟩ := D.dK
  obtain ⟨ys, hl⟩ := D.lst
  exact ⟨upd_same, fun e => (ne_of_none hd h) e.symm, fun e => (ne_of_none hl h) e.symm⟩
/-! ### names -/
def Low (l : List Nat) : Prop := ∀ c ∈ l, 97 ≤ c ∧ c ≤ 122
theorem Low.app {a b : List Nat} (h : Low a) (h' : Low b) : Low (a ++ b) := fun c hc => (List.mem_append.mp hc).elim (h c) (h' c)
def Nm (x : Str) : Prop := ∃ l, x = SX.S l ∧ Low l ∧ l.length ≤ 20
theorem Nm.ok {x : Str} (h : Nm x) : PyData.strOk x = true := by
  obtain ⟨l, rfl, hl, _⟩ := h
  show (SX.S l).cps.all (· < 0x110000) = true
  rw [← Array.all_toList, List.all_eq_true]
  intro c hc
  have := (hl c hc).2
  exact decide_eq_true (by omega)
theorem abc_list : (Str.ofString "abcdefghijklmnopqrstuvwxyz").cps.toList = List.range' 97 26 := by decide +kernel
theorem abc_len : (Str.ofString "abcdefghijklmnopqrstuvwxyz").length ≤ sizeLine := by decide +kernel
theorem abc_at {i : Int} (h0 : 0 ≤ i) (h1 : i < 26) : ∃ c, atI (Str.ofString "abcdefghijklmnopqrstuvwxyz").cps.toList i = some c ∧ 97 ≤ c ∧ c ≤ 122 := by
  refine ⟨97 + i.toNat, ?_, by omega, by omega⟩
  have e : i = ((i.toNat : Nat) : Int) := by omega
  rw [abc_list]
  have q : atI (List.range' 97 26) ((i.toNat : Nat) : Int) = some (97 + i.toNat) := atI_nat (by rw [List.getElem?_range' (by omega)]; simp)
  rw [← e] at q
  exact q
theorem cut_sub (l : List Nat) (lo hi : Option Int) : ∃ a, cutS (SX.S l) lo hi = SX.S a ∧ (∀ c ∈ a, c ∈ l) ∧ a.length ≤ l.length := by
  refine ⟨(l.drop (HT.sIx (SX.S l).length 0 lo)).take (HT.sIx (SX.S l).length (SX.S l).length hi - HT.sIx (SX.S l).length 0 lo), rfl, fun c hc => List.drop_subset _ _ (List.take_subset _ _ hc), ?_⟩
  rw [List.length_take, List.length_drop]
  omega
theorem small_len {l : List Nat} (h : l.length ≤ 100) : (SX.S l).length ≤ sizeLine := by
  rw [SX.S_len]
  exact Nat.le_trans h (by decide)
theorem joinL_nil : ∀ l : List Nat, TL.joinL [] (l.map fun c => [c]) = l
  | [] => rfl
  | [c] => rfl
  | c :: c' :: l => by
    have q := joinL_nil (c' :: l)
    show [c] ++ ([] ++ TL.joinL [] ((c' :: l).map fun c => [c])) = c :: c' :: l
    rw [q]
    rfl
def spNames : Sp := fun vs H Q _ => ∃ (d l : Addr) (m : Int), vs = [.ref d, .int m] ∧ DealAt H d l ∧ 1 ≤ m ∧ m ≤ 20 ∧
  ∀ (p : Addr) (ns : List Str) (H' : Hp), Mine d l H' p (ns.map V.str) → (ns.length : Int) = m → (∀ n ∈ ns, Nm n) → DealAt H' d l → Old d l H H' → Q (.ref p) H'
theorem ixN_nat {n j : Nat} (h : j < n) : ixN n (j : Int) = some j := by
  unfold ixN
  rw [if_pos (by omega), if_pos (by omega)]
  simp
/-- any saying of just so many parts -/
def spSaying (K : PySem.W.Frag) (n : Nat) : Sp := fun vs H Q _ => ∃ (d l p : Addr) (m : Int) (ns : List Str), vs = [.ref d, .ref p, .int m] ∧ DealAt H d l ∧ Mine d l H p (ns.map V.str) ∧ 1 ≤ ns.length ∧ ns.length ≤ 100 ∧ (∀ x ∈ ns, PyData.strOk x = true) ∧ 1 ≤ m ∧ m ≤ (n : Int) ∧ n ≤ 1000 ∧
  ∀ (v : V) (S : Say) (H' : Hp), Dn K H' v S.nd → (S.size : Int) = m → DealAt H' d l → Old d l H H' → Q v H'
theorem at_head {x : V} {xs : List V} : atI (x :: xs) 0 = some x := atI_nat (j := 0) rfl
theorem at_one {x y : V} {xs : List V} : atI (x :: y :: xs) 1 = some y := atI_nat (j := 1) rfl
theorem at_two {x y z : V} {xs : List V} : atI (x :: y :: z :: xs) 2 = some z := atI_nat (j := 2) rfl
end TC

namespace TC
open PySem PySem.Spec PyProof.Rows L2
/-! ### books -/
def rch : Bool → Str
  | false => "last"
  | true => "any"
def tms : Bool → Str
  | false => "once"
  | true => "often"
structure Bk where
  a : Bool
  g : Bool
  d : Bool
  s : Bool
  o : Bool
inductive Rk | ans | dbt | spk | oth
  deriving DecidableEq
def Rk.sort : Rk → Str
  | .ans => "answers"
  | .dbt => "doubts"
  | .spk => "speaks"
  | .oth => "other"
def rowB (b : Bk) : Rk → List Str
  | .ans => ["first", "answers", rch b.a, tms b.g]
  | .dbt => ["first", "doubts", tms b.d]
  | .spk => ["first", "speaks", rch b.s]
  | .oth => ["other", "speaks", rch b.o]
theorem sort_inj : ∀ j k : Rk, j.sort = k.sort → j = k := by
  intro j k
  cases j <;> cases k <;> first | (intro _; rfl) | (intro h; exact absurd h (by decide +kernel))
def valsB (b : Bk) : List Str := [rch b.a, tms b.g, tms b.d, rch b.s, rch b.o]
structure HasB (H : Hp) (C x : Addr) (v1 v2 v3 v4 v5 : Str) : Prop where
  ex : ∃ dx fs, H x = some (.ins C dx fs) ∧ fs.lookup ("answers" : Str) = some (V.str v1) ∧ fs.lookup ("again" : Str) = some (V.str v2) ∧ fs.lookup ("doubts" : Str) = some (V.str v3) ∧ fs.lookup ("speaks" : Str) = some (V.str v4) ∧ fs.lookup ("other" : Str) = some (V.str v5)
theorem HasB.same {H H' : Hp} {C x : Addr} {v1 v2 v3 v4 v5 : Str} (h : HasB H C x v1 v2 v3 v4 v5) (e : Same H H') : HasB H' C x v1 v2 v3 v4 v5 := by
  obtain ⟨dx, fs, h1, q⟩ := h.ex
  exact ⟨dx, fs, e _ _ h1, q⟩
theorem HasB.old {d l : Addr} {H H' : Hp} {C x : Addr} {v1 v2 v3 v4 v5 : Str} (h : HasB H C x v1 v2 v3 v4 v5) (D : DealAt H d l) (e : Old d l H H') : HasB H' C x v1 v2 v3 v4 v5 := by
  obtain ⟨dx, fs, h1, q⟩ := h.ex
  obtain ⟨k, hd⟩ := D.dK
  obtain ⟨ys, hl⟩ := D.lst
  exact ⟨dx, fs, e _ _ h1 (ne_of h1 hd (by intro z; cases z)) (ne_of h1 hl (by intro z; cases z)), q⟩
def spInit (C : Addr) : Sp := fun vs H Q _ => ∃ (x dx : Addr) (v1 v2 v3 v4 v5 : Str), vs = [.ref x, .str v1, .str v2, .str v3, .str v4, .str v5] ∧ H x = some (.ins C dx []) ∧ ∀ H', HasB H' C x v1 v2 v3 v4 v5 → (∀ y, y ≠ x → H' y = H y) → Q .non H'
/-- short texts -/
def Sh (x : Str) : Prop := x.length ≤ 100 ∧ PyData.strOk x = true
theorem sh_rch (b : Bool) : Sh (rch b) := by cases b <;> exact ⟨by decide +kernel, by decide +kernel⟩
theorem sh_tms (b : Bool) : Sh (tms b) := by cases b <;> exact ⟨by decide +kernel, by decide +kernel⟩
theorem in_rch (b : Bool) : inV (.str (rch b)) [.str "last", .str "any"] = true := by cases b <;> decide +kernel
theorem in_tms (b : Bool) : inV (.str (tms b)) [.str "once", .str "often"] = true := by cases b <;> decide +kernel
def spSort (K : PySem.W.Frag) : Sp := fun vs H Q _ => ∃ (p : Addr) (b : Bk) (k : Rk), vs = [.ref p] ∧ SqL K H p ((rowB b k).map V.str) ∧ ∀ H', Same H H' → Q (.str k.sort) H'
/-- lists of texts as data -/
theorem dps {K : PySem.W.Frag} {H : Hp} {p : Addr} {ws : List Str} (h : SqL K H p (ws.map V.str)) (ho : ∀ x ∈ ws, PyData.strOk x = true) : Dp K H (.ref p) (.list (ws.map PyData.str)) ∧ SeqAt.shaped (.list (ws.map PyData.str)) = true := by
  refine ⟨.lst h ?_, ?_⟩
  · clear h ho
    induction ws with
    | nil => exact .nil
    | cons x ws ih => exact .cons (.str x) ih
  · have h1 : PyData.canLayAll0 (ws.map PyData.str) = true := by
      clear h
      induction ws with
      | nil => simp [PyData.canLayAll0]
      | cons x ws ih => simp only [List.map_cons, PyData.canLayAll0, PyData.canLay0, ho x List.mem_cons_self, ih fun y hy => ho y (List.mem_cons_of_mem _ hy), Bool.and_self]
    have h2 : PyData.depthAll (ws.map PyData.str) = 0 := by
      clear h ho h1
      induction ws with
      | nil => simp [PyData.depthAll]
      | cons x ws ih => simp only [List.map_cons, PyData.depthAll, PyData.depth, ih]; omega
    show (PyData.canLay0 (.list (ws.map PyData.str)) && decide (PyData.depth (.list (ws.map PyData.str)) ≤ 64)) = true
    rw [decide_eq_true (by simp only [PyData.depth]; omega), Bool.and_true]
    simp only [PyData.canLay0]
    exact h1
theorem eqv_texts : ∀ ws us : List Str, PyData.eqvAll (ws.map PyData.str) (us.map PyData.str) = decide (ws = us)
  | [], [] => by simp [PyData.eqvAll]
  | [], _ :: _ => by simp [PyData.eqvAll]
  | _ :: _, [] => by simp [PyData.eqvAll]
  | x :: ws, y :: us => by
    simp only [List.map_cons, PyData.eqvAll, PyData.eqv, eqv_texts ws us]
    by_cases e : x = y
    · subst e
      by_cases e2 : ws = us
      · subst e2; simp
      · simp [e2]
    · have : (x == y) = false := by simpa using e
      simp [e, this]
theorem eqv_list (ws us : List Str) : PyData.eqv (.list (ws.map PyData.str)) (.list (us.map PyData.str)) = decide (ws = us) := by
  rw [PyData.eqv]
  exact eqv_texts ws us
theorem eqv_tup (ws us : List Str) : PyData.eqv (.tuple (ws.map PyData.str)) (.tuple (us.map PyData.str)) = decide (ws = us) := by
  rw [PyData.eqv]
  exact eqv_texts ws us
theorem putF_len (f : Str) (v : V) : ∀ fs : List (Str × V), (putF f v fs).length ≤ fs.length + 1
  | [] => Nat.le_refl _
  | (g, x) :: r => by
    unfold putF
    split
    · simp
    · have := putF_len f v r
      simp only [List.length_cons]
      omega
section
variable {P : Program} {w : World} {K : PySem.W.Frag} {mg : Str → Option Value} {base : Heap} {C : Addr}
theorem ok_init {f : Addr} {fd : FuncData} (B : BookAt K C) (F : FunD K "__init__" "Book.__init__" (defArgs s_Book__init) (defBody s_Book__init) (defScope s_Book__init) [.str "last"] [] f fd) : FnOk P w K mg base CX0 1 f fd ["self", "answers", "again", "doubts", "speaks", "other"] (spInit C) := by
  refine F.ok sc_Book__init (fun vs H Q E h => ?_) (fun cdv A outer s H vs Q E hr h => ?_)
  · obtain ⟨x, dx, v1, v2, v3, v4, v5, rfl, _⟩ := h
    rfl
  have hu := hu_of hr
  obtain ⟨x, dx, v1, v2, v3, v4, v5, rfl, hx, q⟩ := h
  refine ⟨_, (pss_cons (ps_fld (pv 0) (pv 1) rfl)
  (pss_cons (ps_fld (pv 0) (pv 2) rfl)
  (pss_cons (ps_fld (pv 0) (pv 3) rfl)
  (pss_cons (ps_fld (pv 0) (pv 4) rfl)
  (pss_one (ps_fld (pv 0) (pv 5) rfl)))))), ?_⟩
  have l1 := putF_len "answers" (.str v1) []
  have l2 := putF_len "again" (.str v2) (putF "answers" (.str v1) [])
  have l3 := putF_len "doubts" (.str v3) (putF "again" (.str v2) (putF "answers" (.str v1) []))
  have l4 := putF_len "speaks" (.str v4) (putF "doubts" (.str v3) (putF "again" (.str v2) (putF "answers" (.str v1) [])))
  have l0 : ([] : List (Str × V)).length = 0 := rfl
  refine ⟨_, rfl, _, rfl, x, C, dx, _, rfl, hx, B.ins.cl, B.n1, by decide, ?_⟩
  refine ⟨_, rfl, _, rfl, x, C, dx, _, rfl, upd_same, B.ins.cl, B.n2, by omega, ?_⟩
  refine ⟨_, rfl, _, rfl, x, C, dx, _, rfl, upd_same, B.ins.cl, B.n3, by omega, ?_⟩
  refine ⟨_, rfl, _, rfl, x, C, dx, _, rfl, upd_same, B.ins.cl, B.n4, by omega, ?_⟩
  refine ⟨_, rfl, _, rfl, x, C, dx, _, rfl, upd_same, B.ins.cl, B.n5, by omega, ?_⟩
  refine q _ ⟨dx, _, upd_same, ?_, ?_, ?_, ?_, ?_⟩ fun y hy => by rw [upd_ne hy, upd_ne hy, upd_ne hy, upd_ne hy, upd_ne hy]
  · rw [lookup_putF, if_neg (by decide +kernel), lookup_putF, if_neg (by decide +kernel), lookup_putF, if_neg (by decide +kernel), lookup_putF, if_neg (by decide +kernel), lookup_putF, if_pos rfl]
  · rw [lookup_putF, if_neg (by decide +kernel), lookup_putF, if_neg (by decide +kernel), lookup_putF, if_neg (by decide +kernel), lookup_putF, if_pos rfl]
  · rw [lookup_putF, if_neg (by decide +kernel), lookup_putF, if_neg (by decide +kernel), lookup_putF, if_pos rfl]
  · rw [lookup_putF, if_neg (by decide +kernel), lookup_putF, if_pos rfl]
  · rw [lookup_putF, if_pos rfl]
theorem ok_sort {f : Addr} {fd : FuncData} (F : Fun K "sort_of" "sort_of" s_sort_of f fd) (T : Top w K mg) : FnOk P w K mg base CX0 1 f fd ["words"] (spSort K) := by
  refine F.ok sc_sort_of (fun vs H Q E h => ?_) (fun cdv A outer s H vs Q E hr h => ?_)
  · obtain ⟨p, b, k, rfl, _⟩ := h
    rfl
  have hu := hu_of hr
  obtain ⟨p, b, k, rfl, hS, q⟩ := h
  obtain ⟨rT, gR, hR⟩ := T.g_REACH
  obtain ⟨tT, gT, hT⟩ := T.g_TIMES
  refine ⟨_, (pss_cons (ps_if (PW.pt (pw_and (pt_cmpR op_eq (pe_callB call_len_seq (by rfl) T.z_len PySem.boot_len (pa_cons (pv 0) pa_nil)) pe_int (nomark _)) (pw_and (pt_cmpR (op_eqD hr.units) (pe_slice sl_list (pv 0) po_none (po_some pe_int)) (pe_lst (pa_cons pe_str (pa_cons pe_str pa_nil))) (nomark _)) (pw_and (pt_cmpR op_in_seq (pe_ix ix_list (pv 0) pe_int (fun _ _ => rfl)) (pe_glob rfl gR (v := .ref rT) rfl) (by rfl)) (pw_and1 (pt_cmpR op_in_seq (pe_ix ix_list (pv 0) pe_int (fun _ _ => rfl)) (pe_glob rfl gT (v := .ref tT) rfl) (by rfl)))))))
    (pss_one (ps_ret pe_str))
    pss_nil)
  (pss_cons (ps_if (pt_cmpR op_ne (pe_callB call_len_seq (by rfl) T.z_len PySem.boot_len (pa_cons (pv 0) pa_nil)) pe_int (nomark _))
    (pss_one (ps_ret pe_non))
    pss_nil)
  (pss_cons (ps_if (PW.pt (pw_and (pt_cmpR (op_eqD hr.units) (pe_slice sl_list (pv 0) po_none (po_some pe_int)) (pe_lst (pa_cons pe_str (pa_cons pe_str pa_nil))) (nomark _)) (pw_and1 (pt_cmpR op_in_seq (pe_ix ix_list (pv 0) pe_int (fun _ _ => rfl)) (pe_glob rfl gT (v := .ref tT) rfl) (by rfl)))))
    (pss_one (ps_ret pe_str))
    pss_nil)
  (pss_cons (ps_if (PW.pt (pw_and (pt_cmpR (op_eqD hr.units) (pe_slice sl_list (pv 0) po_none (po_some pe_int)) (pe_lst (pa_cons pe_str (pa_cons pe_str pa_nil))) (nomark _)) (pw_and1 (pt_cmpR op_in_seq (pe_ix ix_list (pv 0) pe_int (fun _ _ => rfl)) (pe_glob rfl gR (v := .ref rT) rfl) (by rfl)))))
    (pss_one (ps_ret pe_str))
    pss_nil)
  (pss_cons (ps_if (PW.pt (pw_and (pt_cmpR (op_eqD hr.units) (pe_slice sl_list (pv 0) po_none (po_some pe_int)) (pe_lst (pa_cons pe_str (pa_cons pe_str pa_nil))) (nomark _)) (pw_and1 (pt_cmpR op_in_seq (pe_ix ix_list (pv 0) pe_int (fun _ _ => rfl)) (pe_glob rfl gR (v := .ref rT) rfl) (by rfl)))))
    (pss_one (ps_ret pe_str))
    pss_nil)
  (pss_one (ps_ret pe_non))))))), ?_⟩
  have okw : ∀ x ∈ (["first", "answers", "doubts", "speaks", "other"] : List Str), PyData.strOk x = true := by
    intro x hx
    have h2 : (["first", "answers", "doubts", "speaks", "other"] : List Str).all PyData.strOk = true := by decide +kernel
    exact List.all_eq_true.mp h2 x hx
  have hw2 : ∀ {ws us : List Str} {H2 : Hp} {p2 p3 : Addr}, (∀ x ∈ ws, x ∈ (["first", "answers", "doubts", "speaks", "other"] : List Str)) → (∀ x ∈ us, x ∈ (["first", "answers", "doubts", "speaks", "other"] : List Str)) → H2 p2 = some (.lst (ws.map V.str)) → H2 p3 = some (.lst (us.map V.str)) →
      Dp K H2 (.ref p2) (.list (ws.map PyData.str)) ∧ Dp K H2 (.ref p3) (.list (us.map PyData.str)) ∧ SeqAt.shaped (.list (ws.map PyData.str)) = true ∧ SeqAt.shaped (.list (us.map PyData.str)) = true := fun h1 h2 h3 h4 => by
    obtain ⟨a1, a2⟩ := dps (K := K) (SqL.of h3) fun x hx => okw x (h1 x hx)
    obtain ⟨b1, b2⟩ := dps (K := K) (SqL.of h4) fun x hx => okw x (h2 x hx)
    exact ⟨a1, b1, a2, b2⟩
  cases k with
  | ans =>
    have hS : SqL K H p [.str "first", .str "answers", .str (rch b.a), .str (tms b.g)] := hS
    refine ⟨_, rfl, p, _, rfl, .inl hS, rfl, _, rfl, ite2 (fun _ => ?_) (fun c => absurd (by show decide (V.int 4 = V.int 4) = true; decide) c)⟩
    refine ⟨_, rfl, _, rfl, p, _, rfl, hS, fun p2 hp2 => ?_⟩
    refine ⟨by show 2 ≤ sizeLine; decide, fun p3 hp3 => ?_⟩
    have S2 : Same H (upd H p2 (.lst (cutV [.str "first", .str "answers", .str (rch b.a), .str (tms b.g)] none (some 2)))) := same_up hp2 _
    have S3 : Same (upd H p2 (.lst (cutV [.str "first", .str "answers", .str (rch b.a), .str (tms b.g)] none (some 2)))) (upd (upd H p2 (.lst (cutV [.str "first", .str "answers", .str (rch b.a), .str (tms b.g)] none (some 2)))) p3 (.lst [.str "first", .str "answers"])) := same_up hp3 _
    obtain ⟨a1, a2, a3, a4⟩ := hw2 (ws := ["first", "answers"]) (us := ["first", "answers"]) (by simp) (by simp) (S3 _ _ upd_same) upd_same
    refine ⟨_, _, a1, a2, a3, a4, _, rfl, ?_⟩
    rw [eqv_list]
    refine ite2 (fun _ => ?_) (fun c => absurd (by decide +kernel) c)
    have S23 := S2.trans S3
    generalize upd (upd H p2 (.lst (cutV [.str "first", .str "answers", .str (rch b.a), .str (tms b.g)] none (some 2)))) p3 (.lst [.str "first", .str "answers"]) = H3 at S23 ⊢
    have hS3 := S23.seq hS
    refine ⟨_, rfl, p, _, 2, _, rfl, rfl, hS3, at_two, rT, _, rfl, .inr (SqT.kon hR), rfl, rfl, _, rfl, ?_⟩
    show if inV (.str (rch b.a)) [.str "last", .str "any"] = true then _ else _
    rw [in_rch]
    refine iteT ?_
    refine ⟨_, rfl, p, _, 3, _, rfl, rfl, hS3, atI_nat (j := 3) rfl, tT, _, rfl, .inr (SqT.kon hT), rfl, rfl, _, rfl, ?_⟩
    show if inV (.str (tms b.g)) [.str "once", .str "often"] = true then _ else _
    rw [in_tms]
    refine iteT ?_
    exact q H3 S23
  | dbt =>
    have hS : SqL K H p [.str "first", .str "doubts", .str (tms b.d)] := hS
    refine ⟨_, rfl, p, _, rfl, .inl hS, rfl, _, rfl, ite2 (fun c => absurd (of_decide_eq_true c) (by show ¬ (V.int 3 = V.int 4); decide)) (fun _ => ?_)⟩
    refine ⟨_, rfl, p, _, rfl, .inl hS, rfl, _, rfl, ?_⟩
    refine ite2 (fun c => absurd c (by show ¬ ((!decide (V.int 3 = V.int 3)) = true); decide)) (fun _ => ?_)
    refine ⟨_, rfl, _, rfl, p, _, rfl, hS, fun p20 hp20 => ?_⟩
    refine ⟨by show 2 ≤ sizeLine; decide, fun p30 hp30 => ?_⟩
    have Sa0 : Same H (upd H p20 (.lst (cutV [.str "first", .str "doubts", .str (tms b.d)] none (some 2)))) := same_up hp20 _
    have Sb0 : Same (upd H p20 (.lst (cutV [.str "first", .str "doubts", .str (tms b.d)] none (some 2)))) (upd (upd H p20 (.lst (cutV [.str "first", .str "doubts", .str (tms b.d)] none (some 2)))) p30 (.lst [.str "first", .str "doubts"])) := same_up hp30 _
    obtain ⟨a1, a2, a3, a4⟩ := hw2 (ws := ["first", "doubts"]) (us := ["first", "doubts"]) (by simp) (by simp) (Sb0 _ _ upd_same) upd_same
    refine ⟨_, _, a1, a2, a3, a4, _, rfl, ?_⟩
    rw [eqv_list]
    refine ite2 (fun _ => ?_) (fun c => absurd (by decide +kernel) c)
    have S0 := (Sa0.trans Sb0)
    generalize (upd (upd H p20 (.lst (cutV [.str "first", .str "doubts", .str (tms b.d)] none (some 2)))) p30 (.lst [.str "first", .str "doubts"])) = H0 at S0 ⊢
    clear a1 a2 a3 a4 Sb0 Sa0
    have hS0 := S0.seq hS
    refine ⟨_, rfl, p, _, 2, _, rfl, rfl, hS0, at_two, tT, _, rfl, .inr (SqT.kon hT), rfl, rfl, _, rfl, ?_⟩
    show if inV (.str (tms b.d)) [.str "once", .str "often"] = true then _ else _
    rw [in_tms]
    refine iteT ?_
    exact q H0 S0
  | spk =>
    have hS : SqL K H p [.str "first", .str "speaks", .str (rch b.s)] := hS
    refine ⟨_, rfl, p, _, rfl, .inl hS, rfl, _, rfl, ite2 (fun c => absurd (of_decide_eq_true c) (by show ¬ (V.int 3 = V.int 4); decide)) (fun _ => ?_)⟩
    refine ⟨_, rfl, p, _, rfl, .inl hS, rfl, _, rfl, ?_⟩
    refine ite2 (fun c => absurd c (by show ¬ ((!decide (V.int 3 = V.int 3)) = true); decide)) (fun _ => ?_)
    refine ⟨_, rfl, _, rfl, p, _, rfl, hS, fun p20 hp20 => ?_⟩
    refine ⟨by show 2 ≤ sizeLine; decide, fun p30 hp30 => ?_⟩
    have Sa0 : Same H (upd H p20 (.lst (cutV [.str "first", .str "speaks", .str (rch b.s)] none (some 2)))) := same_up hp20 _
    have Sb0 : Same (upd H p20 (.lst (cutV [.str "first", .str "speaks", .str (rch b.s)] none (some 2)))) (upd (upd H p20 (.lst (cutV [.str "first", .str "speaks", .str (rch b.s)] none (some 2)))) p30 (.lst [.str "first", .str "doubts"])) := same_up hp30 _
    obtain ⟨a1, a2, a3, a4⟩ := hw2 (ws := ["first", "speaks"]) (us := ["first", "doubts"]) (by simp) (by simp) (Sb0 _ _ upd_same) upd_same
    refine ⟨_, _, a1, a2, a3, a4, _, rfl, ?_⟩
    rw [eqv_list]
    refine ite2 (fun c => absurd (of_decide_eq_true c) (by decide +kernel)) (fun _ => ?_)
    have S0 := (Sa0.trans Sb0)
    generalize (upd (upd H p20 (.lst (cutV [.str "first", .str "speaks", .str (rch b.s)] none (some 2)))) p30 (.lst [.str "first", .str "doubts"])) = H0 at S0 ⊢
    clear a1 a2 a3 a4 Sb0 Sa0
    have hS0 := S0.seq hS
    refine ⟨_, rfl, _, rfl, p, _, rfl, hS0, fun p21 hp21 => ?_⟩
    refine ⟨by show 2 ≤ sizeLine; decide, fun p31 hp31 => ?_⟩
    have Sa1 : Same H0 (upd H0 p21 (.lst (cutV [.str "first", .str "speaks", .str (rch b.s)] none (some 2)))) := same_up hp21 _
    have Sb1 : Same (upd H0 p21 (.lst (cutV [.str "first", .str "speaks", .str (rch b.s)] none (some 2)))) (upd (upd H0 p21 (.lst (cutV [.str "first", .str "speaks", .str (rch b.s)] none (some 2)))) p31 (.lst [.str "first", .str "speaks"])) := same_up hp31 _
    obtain ⟨a1, a2, a3, a4⟩ := hw2 (ws := ["first", "speaks"]) (us := ["first", "speaks"]) (by simp) (by simp) (Sb1 _ _ upd_same) upd_same
    refine ⟨_, _, a1, a2, a3, a4, _, rfl, ?_⟩
    rw [eqv_list]
    refine ite2 (fun _ => ?_) (fun c => absurd (by decide +kernel) c)
    have S1 := S0.trans (Sa1.trans Sb1)
    generalize (upd (upd H0 p21 (.lst (cutV [.str "first", .str "speaks", .str (rch b.s)] none (some 2)))) p31 (.lst [.str "first", .str "speaks"])) = H1 at S1 ⊢
    clear a1 a2 a3 a4 Sb1 Sa1
    have hS1 := S1.seq hS
    refine ⟨_, rfl, p, _, 2, _, rfl, rfl, hS1, at_two, rT, _, rfl, .inr (SqT.kon hR), rfl, rfl, _, rfl, ?_⟩
    show if inV (.str (rch b.s)) [.str "last", .str "any"] = true then _ else _
    rw [in_rch]
    refine iteT ?_
    exact q H1 S1
  | oth =>
    have hS : SqL K H p [.str "other", .str "speaks", .str (rch b.o)] := hS
    refine ⟨_, rfl, p, _, rfl, .inl hS, rfl, _, rfl, ite2 (fun c => absurd (of_decide_eq_true c) (by show ¬ (V.int 3 = V.int 4); decide)) (fun _ => ?_)⟩
    refine ⟨_, rfl, p, _, rfl, .inl hS, rfl, _, rfl, ?_⟩
    refine ite2 (fun c => absurd c (by show ¬ ((!decide (V.int 3 = V.int 3)) = true); decide)) (fun _ => ?_)
    refine ⟨_, rfl, _, rfl, p, _, rfl, hS, fun p20 hp20 => ?_⟩
    refine ⟨by show 2 ≤ sizeLine; decide, fun p30 hp30 => ?_⟩
    have Sa0 : Same H (upd H p20 (.lst (cutV [.str "other", .str "speaks", .str (rch b.o)] none (some 2)))) := same_up hp20 _
    have Sb0 : Same (upd H p20 (.lst (cutV [.str "other", .str "speaks", .str (rch b.o)] none (some 2)))) (upd (upd H p20 (.lst (cutV [.str "other", .str "speaks", .str (rch b.o)] none (some 2)))) p30 (.lst [.str "first", .str "doubts"])) := same_up hp30 _
    obtain ⟨a1, a2, a3, a4⟩ := hw2 (ws := ["other", "speaks"]) (us := ["first", "doubts"]) (by simp) (by simp) (Sb0 _ _ upd_same) upd_same
    refine ⟨_, _, a1, a2, a3, a4, _, rfl, ?_⟩
    rw [eqv_list]
    refine ite2 (fun c => absurd (of_decide_eq_true c) (by decide +kernel)) (fun _ => ?_)
    have S0 := (Sa0.trans Sb0)
    generalize (upd (upd H p20 (.lst (cutV [.str "other", .str "speaks", .str (rch b.o)] none (some 2)))) p30 (.lst [.str "first", .str "doubts"])) = H0 at S0 ⊢
    clear a1 a2 a3 a4 Sb0 Sa0
    have hS0 := S0.seq hS
    refine ⟨_, rfl, _, rfl, p, _, rfl, hS0, fun p21 hp21 => ?_⟩
    refine ⟨by show 2 ≤ sizeLine; decide, fun p31 hp31 => ?_⟩
    have Sa1 : Same H0 (upd H0 p21 (.lst (cutV [.str "other", .str "speaks", .str (rch b.o)] none (some 2)))) := same_up hp21 _
    have Sb1 : Same (upd H0 p21 (.lst (cutV [.str "other", .str "speaks", .str (rch b.o)] none (some 2)))) (upd (upd H0 p21 (.lst (cutV [.str "other", .str "speaks", .str (rch b.o)] none (some 2)))) p31 (.lst [.str "first", .str "speaks"])) := same_up hp31 _
    obtain ⟨a1, a2, a3, a4⟩ := hw2 (ws := ["other", "speaks"]) (us := ["first", "speaks"]) (by simp) (by simp) (Sb1 _ _ upd_same) upd_same
    refine ⟨_, _, a1, a2, a3, a4, _, rfl, ?_⟩
    rw [eqv_list]
    refine ite2 (fun c => absurd (of_decide_eq_true c) (by decide +kernel)) (fun _ => ?_)
    have S1 := S0.trans (Sa1.trans Sb1)
    generalize (upd (upd H0 p21 (.lst (cutV [.str "other", .str "speaks", .str (rch b.o)] none (some 2)))) p31 (.lst [.str "first", .str "speaks"])) = H1 at S1 ⊢
    clear a1 a2 a3 a4 Sb1 Sa1
    have hS1 := S1.seq hS
    refine ⟨_, rfl, _, rfl, p, _, rfl, hS1, fun p22 hp22 => ?_⟩
    refine ⟨by show 2 ≤ sizeLine; decide, fun p32 hp32 => ?_⟩
    have Sa2 : Same H1 (upd H1 p22 (.lst (cutV [.str "other", .str "speaks", .str (rch b.o)] none (some 2)))) := same_up hp22 _
    have Sb2 : Same (upd H1 p22 (.lst (cutV [.str "other", .str "speaks", .str (rch b.o)] none (some 2)))) (upd (upd H1 p22 (.lst (cutV [.str "other", .str "speaks", .str (rch b.o)] none (some 2)))) p32 (.lst [.str "other", .str "speaks"])) := same_up hp32 _
    obtain ⟨a1, a2, a3, a4⟩ := hw2 (ws := ["other", "speaks"]) (us := ["other", "speaks"]) (by simp) (by simp) (Sb2 _ _ upd_same) upd_same
    refine ⟨_, _, a1, a2, a3, a4, _, rfl, ?_⟩
    rw [eqv_list]
    refine ite2 (fun _ => ?_) (fun c => absurd (by decide +kernel) c)
    have S2 := S1.trans (Sa2.trans Sb2)
    generalize (upd (upd H1 p22 (.lst (cutV [.str "other", .str "speaks", .str (rch b.o)] none (some 2)))) p32 (.lst [.str "other", .str "speaks"])) = H2 at S2 ⊢
    clear a1 a2 a3 a4 Sb2 Sa2
    have hS2 := S2.seq hS
    refine ⟨_, rfl, p, _, 2, _, rfl, rfl, hS2, at_two, rT, _, rfl, .inr (SqT.kon hR), rfl, rfl, _, rfl, ?_⟩
    show if inV (.str (rch b.o)) [.str "last", .str "any"] = true then _ else _
    rw [in_rch]
    refine iteT ?_
    exact q H2 S2
end
end TC


namespace TC
open PySem PySem.Spec PyProof.Rows L2
/-! ### a loop over enumerate -/
theorem for_enum {K : PySem.W.Frag} {a : Addr} {xs : List V} {g : TG} {tb : TS} {D : Ends} {σ : L2.St} {H : Hp} (Pv : Nat → L2.St → Hp → Prop) (h0 : Pv 0 σ H) (hl : ∀ i σ H, i ≤ xs.length → Pv i σ H → SqL K H a xs)
    (hs : ∀ (i : Nat) (x : V) (T : Addr) (σ : L2.St) (H : Hp), xs[i]? = some x → Pv i σ H → H T = none → g (.ref T) σ (upd H T (.tup [.int (i : Nat), x])) fun σ2 H2 => tb { D with nx := Pv (i + 1), ct := Pv (i + 1), bk := D.nx } σ2 H2) (hd : ∀ σ H, Pv xs.length σ H → D.nx σ H) :
    ∃ W : Nat → Nat → L2.St → Hp → Prop, (∃ m, W 0 m σ H) ∧ ∀ i m σ H, W i m σ H →
      ((Ite K a).stop i H ∧ D.nx σ H) ∨ ((Ite K a).go i H ∧ ∃ N : L2.St → Hp → Prop, (∀ σ' H', N σ' H' → ∃ m', m' < m ∧ W (i + 1) m' σ' H') ∧ ∀ v H', (Ite K a).yld i H v H' → g v σ H' fun σ2 H2 => tb { D with nx := N, ct := N, bk := D.nx } σ2 H2) := by
  refine ⟨fun i m σ H => m = xs.length - i ∧ i ≤ xs.length ∧ Pv i σ H, ⟨xs.length, rfl, Nat.zero_le _, h0⟩, ?_⟩
  rintro i m σ H ⟨rfl, hi, p⟩
  have qx := hl i σ H hi p
  by_cases hlt : i < xs.length
  · have hx : xs[i]? = some xs[i] := List.getElem?_eq_getElem hlt
    refine .inr ⟨⟨xs, _, qx, hx⟩, Pv (i + 1), fun σ' H' p' => ⟨xs.length - (i + 1), by omega, rfl, hlt, p'⟩, fun v H' y => ?_⟩
    obtain ⟨T, x', rfl, hT, rfl, f1⟩ := y
    exact hs i x' T σ H (f1 xs qx) p hT
  · have e : i = xs.length := by omega
    subst e
    exact .inl ⟨⟨xs, qx, Nat.le_refl _⟩, hd σ H p⟩
def spFields (K : PySem.W.Frag) (C : Addr) (tp : Bool) : Sp := fun vs H Q _ => ∃ (x : Addr) (v1 v2 v3 v4 v5 : Str), vs = [.ref x] ∧ HasB H C x v1 v2 v3 v4 v5 ∧ ∀ (t : Addr) (H' : Hp), Same H H' → H t = none → H' t = some (if tp = true then .tup [.str v1, .str v2, .str v3, .str v4, .str v5] else .lst [.str v1, .str v2, .str v3, .str v4, .str v5]) → Q (.ref t) H'
def spSameB (C : Addr) : Sp := fun vs H Q _ => ∃ (x y : Addr) (v1 v2 v3 v4 v5 : Str), vs = [.ref x, .ref y] ∧ HasB H C x v1 v2 v3 v4 v5 ∧ HasB H C y v1 v2 v3 v4 v5 ∧ (∀ z ∈ [v1, v2, v3, v4, v5], Sh z) ∧ ∀ H', Same H H' → Q (.bl true) H'
def rowsS (v1 v2 v3 v4 v5 : Str) : List Str := [Str.ofString "first answers " ++ v1 ++ Str.ofString " " ++ v2, Str.ofString "first doubts " ++ v3, Str.ofString "first speaks " ++ v4, Str.ofString "other speaks " ++ v5]
def spShow (C : Addr) : Sp := fun vs H Q _ => ∃ (x : Addr) (v1 v2 v3 v4 v5 : Str), vs = [.ref x] ∧ HasB H C x v1 v2 v3 v4 v5 ∧ (∀ z ∈ [v1, v2, v3, v4, v5], Sh z) ∧ ∀ H', Same H H' → Q (.str (Txt.join (Str.ofString "\n") (rowsS v1 v2 v3 v4 v5))) H'
theorem len_app (a b : Str) : (a ++ b).length = a.length + b.length := by
  have h := congrArg List.length (TL.tl_append a b)
  have e : ∀ z : Str, (TL.tl z).length = z.length := fun z => Array.length_toList
  rw [List.length_append, e, e, e] at h
  exact h
theorem len_k1 : (Str.ofString "first answers ").length ≤ 20 := by decide +kernel
theorem len_k2 : (Str.ofString " ").length ≤ 20 := by decide +kernel
theorem len_k3 : (Str.ofString "first doubts ").length ≤ 20 := by decide +kernel
theorem len_k4 : (Str.ofString "first speaks ").length ≤ 20 := by decide +kernel
theorem len_k5 : (Str.ofString "other speaks ").length ≤ 20 := by decide +kernel
theorem len_nl : (Str.ofString "\n").length = 1 := by decide +kernel
theorem few {n : Nat} (h : n ≤ 1000) : n ≤ sizeLine := Nat.le_of_lt (small1000 h)
theorem rows_len {v1 v2 v3 v4 v5 : Str} (h1 : v1.length ≤ 100) (h2 : v2.length ≤ 100) (h3 : v3.length ≤ 100) (h4 : v4.length ≤ 100) (h5 : v5.length ≤ 100) : ((rowsS v1 v2 v3 v4 v5).map (·.length)).sum + (rowsS v1 v2 v3 v4 v5).length * (Str.ofString "\n").length ≤ 16777216 := by
  have a1 := len_k1
  have a2 := len_k2
  have a3 := len_k3
  have a4 := len_k4
  have a5 := len_k5
  rw [len_nl]
  show ((Str.ofString "first answers " ++ v1 ++ Str.ofString " " ++ v2).length + ((Str.ofString "first doubts " ++ v3).length + ((Str.ofString "first speaks " ++ v4).length + ((Str.ofString "other speaks " ++ v5).length + 0)))) + 4 * 1 ≤ 16777216
  rw [len_app, len_app, len_app, len_app, len_app, len_app]
  omega
section
variable {P : Program} {w : World} {K : PySem.W.Frag} {mg : Str → Option Value} {base : Heap} {C : Addr}
theorem ok_fields {f : Addr} {fd : FuncData} (B : BookAt K C) (F : Fun K "fields_of" "fields_of" s_fields_of f fd) : FnOk P w K mg base CX0 1 f fd ["book"] (spFields K C true) := by
  refine F.ok sc_fields_of (fun vs H Q E h => ?_) (fun cdv A outer s H vs Q E hr h => ?_)
  · obtain ⟨x, v1, v2, v3, v4, v5, rfl, _⟩ := h
    rfl
  have hu := hu_of hr
  obtain ⟨x, v1, v2, v3, v4, v5, rfl, hb, q⟩ := h
  obtain ⟨dx, fs, hx, e1, e2, e3, e4, e5⟩ := hb.ex
  refine ⟨_, (pss_one (ps_ret (pe_tup (pa_cons (pe_fld (pv 0) rfl) (pa_cons (pe_fld (pv 0) rfl) (pa_cons (pe_fld (pv 0) rfl) (pa_cons (pe_fld (pv 0) rfl) (pa_cons (pe_fld (pv 0) rfl) pa_nil)))))))), ?_⟩
  refine ⟨_, rfl, x, C, dx, fs, _, rfl, hx, B.ins.cl, B.n1, e1, _, rfl, x, C, dx, fs, _, rfl, hx, B.ins.cl, B.n2, e2, _, rfl, x, C, dx, fs, _, rfl, hx, B.ins.cl, B.n3, e3, _, rfl, x, C, dx, fs, _, rfl, hx, B.ins.cl, B.n4, e4, _, rfl, x, C, dx, fs, _, rfl, hx, B.ins.cl, B.n5, e5, by show 5 ≤ sizeLine; decide, fun t ht => ?_⟩
  exact q t _ (same_up ht _) ht upd_same
theorem ok_law_fields {f : Addr} {fd : FuncData} (B : BookAt K C) (F : Fun K "_law_fields" "_law_fields" s_law_fields f fd) : FnOk P w K mg base CX0 1 f fd ["_law_book"] (spFields K C false) := by
  refine F.ok sc_law_fields (fun vs H Q E h => ?_) (fun cdv A outer s H vs Q E hr h => ?_)
  · obtain ⟨x, v1, v2, v3, v4, v5, rfl, _⟩ := h
    rfl
  have hu := hu_of hr
  obtain ⟨x, v1, v2, v3, v4, v5, rfl, hb, q⟩ := h
  obtain ⟨dx, fs, hx, e1, e2, e3, e4, e5⟩ := hb.ex
  refine ⟨_, (pss_one (ps_ret (pe_lst (pa_cons (pe_fld (pv 0) rfl) (pa_cons (pe_fld (pv 0) rfl) (pa_cons (pe_fld (pv 0) rfl) (pa_cons (pe_fld (pv 0) rfl) (pa_cons (pe_fld (pv 0) rfl) pa_nil)))))))), ?_⟩
  refine ⟨_, rfl, x, C, dx, fs, _, rfl, hx, B.ins.cl, B.n1, e1, _, rfl, x, C, dx, fs, _, rfl, hx, B.ins.cl, B.n2, e2, _, rfl, x, C, dx, fs, _, rfl, hx, B.ins.cl, B.n3, e3, _, rfl, x, C, dx, fs, _, rfl, hx, B.ins.cl, B.n4, e4, _, rfl, x, C, dx, fs, _, rfl, hx, B.ins.cl, B.n5, e5, by show 5 ≤ sizeLine; decide, fun t ht => ?_⟩
  exact q t _ (same_up ht _) ht upd_same
theorem ok_same_book {f : Addr} {fd : FuncData} (F : Fun K "same_book" "same_book" s_same_book f fd) (C_fields_of : C8.Cal P w K mg base 1 "fields_of" (spFields K C true) []) : FnOk P w K mg base CX0 2 f fd ["one", "other"] (spSameB C) := by
  refine F.ok sc_same_book (fun vs H Q E h => ?_) (fun cdv A outer s H vs Q E hr h => ?_)
  · obtain ⟨x, y, v1, v2, v3, v4, v5, rfl, _⟩ := h
    rfl
  have hu := hu_of hr
  obtain ⟨x, y, v1, v2, v3, v4, v5, rfl, hb, hb2, hsh, q⟩ := h
  refine ⟨_, (pss_one (ps_ret (pe_cmpR (op_eqD hr.units) (C8.pe_c C_fields_of hr (by decide) rfl (pa_cons (pv 0) pa_nil)) (C8.pe_c C_fields_of hr (by decide) rfl (pa_cons (pv 1) pa_nil)) (nomark _)))), ?_⟩
  refine ⟨_, rfl, x, v1, v2, v3, v4, v5, rfl, hb, fun t H1 S1 _ h1 => ?_⟩
  refine ⟨_, rfl, y, v1, v2, v3, v4, v5, rfl, hb2.same S1, fun t2 H2 S2 _ h2 => ?_⟩
  have dpt : ∀ (p : Addr), H2 p = some (.tup ([v1, v2, v3, v4, v5].map V.str)) → Dp K H2 (.ref p) (.tuple ([v1, v2, v3, v4, v5].map PyData.str)) := fun p hp => .tup (SqT.of hp) (.cons (.str _) (.cons (.str _) (.cons (.str _) (.cons (.str _) (.cons (.str _) .nil)))))
  have shp : SeqAt.shaped (.tuple ([v1, v2, v3, v4, v5].map PyData.str)) = true := by
    show (PyData.canLay0 (.tuple ([v1, v2, v3, v4, v5].map PyData.str)) && decide (PyData.depth (.tuple ([v1, v2, v3, v4, v5].map PyData.str)) ≤ 64)) = true
    have o1 := (hsh v1 (by simp)).2
    have o2 := (hsh v2 (by simp)).2
    have o3 := (hsh v3 (by simp)).2
    have o4 := (hsh v4 (by simp)).2
    have o5 := (hsh v5 (by simp)).2
    simp [PyData.canLay0, PyData.canLayAll0, PyData.depth, PyData.depthAll, o1, o2, o3, o4, o5]
  refine ⟨_, _, dpt t (S2 _ _ h1), dpt t2 h2, shp, shp, ?_⟩
  rw [eqv_tup, decide_eq_true rfl]
  exact q _ (S1.trans S2)
theorem ok_show {f : Addr} {fd : FuncData} (B : BookAt K C) (F : Fun K "show_book" "show_book" s_show_book f fd) : FnOk P w K mg base CX0 1 f fd ["book"] (spShow C) := by
  refine F.ok sc_show_book (fun vs H Q E h => ?_) (fun cdv A outer s H vs Q E hr h => ?_)
  · obtain ⟨x, v1, v2, v3, v4, v5, rfl, _⟩ := h
    rfl
  have hu := hu_of hr
  obtain ⟨x, v1, v2, v3, v4, v5, rfl, hb, hsh, q⟩ := h
  obtain ⟨dx, fs, hx, e1, e2, e3, e4, e5⟩ := hb.ex
  have o1 := (hsh v1 (by simp)).1
  have o2 := (hsh v2 (by simp)).1
  have o3 := (hsh v3 (by simp)).1
  have o4 := (hsh v4 (by simp)).1
  have o5 := (hsh v5 (by simp)).1
  have a1 := len_k1
  have a2 := len_k2
  have a3 := len_k3
  have a4 := len_k4
  have a5 := len_k5
  refine ⟨_, (pss_cons (ps_set (i := 1) sc_show_book.nd rfl (Or.inl rfl) (pe_lst (pa_cons (pe_op op_add_str (pe_op op_add_str (pe_op op_add_str pe_str (pe_fld (pv 0) rfl)) pe_str) (pe_fld (pv 0) rfl)) (pa_cons (pe_op op_add_str pe_str (pe_fld (pv 0) rfl)) pa_nil))))
  (pss_cons (ps_set (i := 1) sc_show_book.nd rfl (Or.inl rfl) (pe_op op_cat (pv 1) (pe_lst (pa_cons (pe_op op_add_str pe_str (pe_fld (pv 0) rfl)) (pa_cons (pe_op op_add_str pe_str (pe_fld (pv 0) rfl)) pa_nil)))))
  (pss_one (ps_ret (pe_join pe_str (pv 1)))))), ?_⟩
  refine ⟨_, rfl, x, C, dx, fs, _, rfl, hx, B.ins.cl, B.n1, e1, _, _, rfl, rfl, few (by omega), _, _, rfl, rfl, few (by rw [len_app]; omega), _, rfl, x, C, dx, fs, _, rfl, hx, B.ins.cl, B.n2, e2, _, _, rfl, rfl, few (by rw [len_app, len_app]; omega), ?_⟩
  refine ⟨_, rfl, x, C, dx, fs, _, rfl, hx, B.ins.cl, B.n3, e3, _, _, rfl, rfl, few (by omega), by show 2 ≤ sizeLine; decide, fun p1 hp1 => ?_⟩
  have S1 : Same H (upd H p1 (.lst [.str (Str.ofString "first answers " ++ v1 ++ Str.ofString " " ++ v2), .str (Str.ofString "first doubts " ++ v3)])) := same_up hp1 _
  refine ⟨_, rfl, _, rfl, x, C, dx, fs, _, rfl, S1 _ _ hx, B.ins.cl, B.n4, e4, _, _, rfl, rfl, few (by omega), _, rfl, x, C, dx, fs, _, rfl, S1 _ _ hx, B.ins.cl, B.n5, e5, _, _, rfl, rfl, few (by omega), by show 2 ≤ sizeLine; decide, fun p2 hp2 => ?_⟩
  have S2 : Same (upd H p1 (.lst [.str (Str.ofString "first answers " ++ v1 ++ Str.ofString " " ++ v2), .str (Str.ofString "first doubts " ++ v3)])) (upd (upd H p1 (.lst [.str (Str.ofString "first answers " ++ v1 ++ Str.ofString " " ++ v2), .str (Str.ofString "first doubts " ++ v3)])) p2 (.lst [.str (Str.ofString "first speaks " ++ v4), .str (Str.ofString "other speaks " ++ v5)])) := same_up hp2 _
  refine ⟨p1, p2, _, _, rfl, rfl, S2 _ _ upd_same, upd_same, by show 4 ≤ sizeLine; decide, fun p3 hp3 => ?_⟩
  refine ⟨⟨_, rfl⟩, _, rfl, _, p3, rowsS v1 v2 v3 v4 v5, rfl, rfl, .inl (SqL.of upd_same), rows_len o1 o2 o3 o4 o5, ?_⟩
  exact q _ (S1.trans (S2.trans (same_up hp3 _)))
end
end TC


namespace TC
open PySem PySem.Spec PyProof.Rows L2
def Lt (x : Str) : List Nat := x.cps.toList
theorem S_Lt (x : Str) : SX.S (Lt x) = x := SX.S_tl x
def rowL (b : Bk) (k : Rk) : List (List Nat) := (rowB b k).map Lt
theorem rowL_S (b : Bk) (k : Rk) : (rowL b k).map (fun w => V.str (SX.S w)) = (rowB b k).map V.str := by
  unfold rowL
  rw [List.map_map]
  exact List.map_congr_left fun x _ => by show V.str (SX.S (Lt x)) = V.str x; rw [S_Lt]
theorem rowL_ne (b : Bk) (k : Rk) : rowL b k ≠ [] := by cases k <;> simp [rowL, rowB]
theorem row_ok (b : Bk) (k : Rk) : ∀ x ∈ rowB b k, PyData.strOk x = true := by
  intro x hx
  have l1 : PyData.strOk (Str.ofString "first") = true := by decide +kernel
  have l2 : PyData.strOk (Str.ofString "answers") = true := by decide +kernel
  have l3 : PyData.strOk (Str.ofString "doubts") = true := by decide +kernel
  have l4 : PyData.strOk (Str.ofString "speaks") = true := by decide +kernel
  have l5 : PyData.strOk (Str.ofString "other") = true := by decide +kernel
  cases k <;> simp [rowB] at hx
  · rcases hx with rfl | rfl | rfl | rfl
    · exact l1
    · exact l2
    · exact (sh_rch _).2
    · exact (sh_tms _).2
  · rcases hx with rfl | rfl | rfl
    · exact l1
    · exact l3
    · exact (sh_tms _).2
  · rcases hx with rfl | rfl | rfl
    · exact l1
    · exact l4
    · exact (sh_rch _).2
  · rcases hx with rfl | rfl | rfl
    · exact l5
    · exact l4
    · exact (sh_rch _).2
/-- what stands behind the first two words -/
def argB (b : Bk) : Rk → List V
  | .ans => [.str (rch b.a), .str (tms b.g)]
  | .dbt => [.str (tms b.d)]
  | .spk => [.str (rch b.s)]
  | .oth => [.str (rch b.o)]
theorem row_cut (b : Bk) (k : Rk) : cutV ((rowB b k).map V.str) (some 2) none = argB b k := by cases k <;> rfl
def spRead (C : Addr) : Sp := fun vs H Q _ => ∃ (l : List Nat) (b : Bk) (ks : List Rk), vs = [.str (SX.S l)] ∧ l.length ≤ 10000 ∧ ks.Perm [.ans, .dbt, .spk, .oth] ∧ rowsT l = ks.map (rowL b) ∧
  ∀ (x : Addr) (H' : Hp), Same H H' → H x = none → HasB H' C x (rch b.a) (tms b.g) (tms b.d) (rch b.s) (rch b.o) → Q (.ref x) H'
theorem nl_S : Str.ofString "\n" = SX.S [10] := by decide +kernel
theorem sp_S : Str.ofString " " = SX.S [32] := by decide +kernel
theorem em_S : Str.ofString "" = SX.S [] := by decide +kernel
theorem split_at (c : Nat) (hc : c < 256) (l : List Nat) : Txt.split (SX.S l) (SX.S [c]) = (cuts c l).map SX.S := by
  rw [SX.split_S (by simp) (by simp [hc]), spl_cuts]
theorem cuts_len (c : Nat) : ∀ l : List Nat, (cuts c l).length ≤ l.length + 1
  | [] => Nat.le_refl _
  | x :: l => by
    have ih := cuts_len c l
    unfold cuts
    split
    · simp only [List.length_cons]; omega
    · have e := cuts_eq c l
      have e2 := congrArg List.length e
      simp only [List.length_cons] at e2 ⊢
      omega
theorem cuts_mem (c : Nat) : ∀ (l : List Nat) (p : List Nat), p ∈ cuts c l → (∀ x ∈ p, x ∈ l) ∧ p.length ≤ l.length
  | [], p, h => by
    rw [List.mem_singleton.mp (show p ∈ [[]] from h)]
    exact ⟨fun x hx => (nomatch hx), Nat.le_refl _⟩
  | x :: l, p, h => by
    unfold cuts at h
    split at h
    · rcases List.mem_cons.mp h with e | h
      · rw [e]
        exact ⟨fun x hx => (nomatch hx), Nat.zero_le _⟩
      · obtain ⟨a, b⟩ := cuts_mem c l p h
        exact ⟨fun y hy => List.mem_cons_of_mem _ (a y hy), by simp only [List.length_cons]; omega⟩
    · rcases List.mem_cons.mp h with e | h
      · obtain ⟨a, b⟩ := cuts_mem c l ((cuts c l).headD []) (by rw [← cuts_eq c l]; exact List.mem_cons_self)
        rw [e]
        exact ⟨fun y hy => (List.mem_cons.mp hy).elim (fun z => by rw [z]; exact List.mem_cons_self) fun z => List.mem_cons_of_mem _ (a y z), by simp only [List.length_cons]; omega⟩
      · obtain ⟨a, b⟩ := cuts_mem c l p (List.mem_of_mem_tail h)
        exact ⟨fun y hy => List.mem_cons_of_mem _ (a y hy), by simp only [List.length_cons]; omega⟩
theorem S_inj2 {a b : List Nat} : SX.S a = SX.S b ↔ a = b := ⟨fun h => SX.S_inj h, fun h => by rw [h]⟩
theorem few2 {l : List Nat} (h : l.length ≤ 10000) : (SX.S l).length + 2 ≤ sizeLine := by
  rw [SX.S_len]
  exact Nat.le_trans (by omega : l.length + 2 ≤ 20000) (by decide)
/-- the next row that is none empty -/
theorem next_row {ks : List Rk} {b : Bk} {n : Nat} {W : List (List Nat)} {more : List (List (List Nat))} (h : ks.map (rowL b) = (ks.take n).map (rowL b) ++ W :: more) (hn : n ≤ ks.length) : ∃ k, ks[n]? = some k ∧ rowL b k = W ∧ (ks.take (n + 1)).map (rowL b) = (ks.take n).map (rowL b) ++ [W] := by
  have e1 : (ks.map (rowL b))[n]? = some W := by
    rw [h, List.getElem?_append_right (by rw [List.length_map, List.length_take]; omega), List.length_map, List.length_take, Nat.min_eq_left hn, Nat.sub_self]
    rfl
  rw [List.getElem?_map] at e1
  obtain ⟨k, hk, e⟩ := Option.map_eq_some_iff.mp e1
  refine ⟨k, hk, e, ?_⟩
  rw [List.take_succ, hk, List.map_append, ← e]
  rfl
section
variable {P : Program} {w : World} {K : PySem.W.Frag} {mg : Str → Option Value} {base : Heap} {C : Addr}
theorem ok_read {f : Addr} {fd : FuncData} (B : BookAt K C) (F : Fun K "read_book" "read_book" s_read_book f fd) (T : Top w K mg) (C_sort_of : C8.Cal P w K mg base 1 "sort_of" (spSort K) []) (C_Book5 : C8.Mak P w K mg base 1 "Book" C (spInit C) []) : FnOk P w K mg base CX0 3 f fd ["text"] (spRead C) := by
  refine F.ok sc_read_book (fun vs H Q E h => ?_) (fun cdv A outer s H vs Q E hr h => ?_)
  · obtain ⟨l, b, ks, rfl, _⟩ := h
    rfl
  have hu := hu_of hr
  obtain ⟨l, b, ks, rfl, hlen, hks, hrows, q⟩ := h
  have hk4 : ks.length = 4 := hks.length_eq
  have hnd : ks.Nodup := hks.nodup_iff.mpr (by decide)
  refine ⟨_, (pss_cons (ps_if (pt_not (pt_val (pe_callB call_isi (by rfl) T.z_isinstance (by decide +kernel) (pa_cons (pv 0) (pa_cons (pe_bltn (by rfl) T.z_str (by decide +kernel) (v := .ty "str") rfl) pa_nil)))))
    (pss_one ps_never)
    pss_nil)
  (pss_cons (ps_set (i := 1) sc_read_book.nd rfl (Or.inl rfl) pe_dnewK)
  (pss_cons (ps_set (i := 2) sc_read_book.nd rfl (Or.inl rfl) (pe_split (pv 0) pe_str))
  (C8.pss_cut (ps_for PassesOwn.never rfl (pi_enum (by rfl) T.z_enumerate (pa_cons (pv 2) pa_nil)) (pg_tup rfl (pgs_cons (pg_name (i := 3) sc_read_book.nd rfl (Or.inl rfl)) (pgs_cons (pg_name (i := 4) sc_read_book.nd rfl (Or.inl rfl)) pgs_nil)))
    (pss_cons (ps_setLc (i := 5) (own := [("word", 9)]) (g := gName 9)  (by rfl) sc_read_book.nd rfl rfl (sw_true rfl rfl rfl (by decide +kernel)) (pi_list (pe_split (pv 4) pe_str)) (blkOk_by (N := sc_read_book_N) (sc := defScope s_read_book) (by decide +kernel)) (fun _ _ _ _ _ => pg_name (i := 9) sc_read_book.nd rfl (Or.inl rfl)) (fun _ _ _ _ _ => pts_one (pt_cmpR op_ne (pv 9) pe_str (nomark _))) (fun _ _ _ _ _ => (pv 9)))
    (pss_cons (ps_if (pt_cmpR (op_eqD hr.units) (pv 5) (pe_lst pa_nil) (nomark _))
      (pss_one ps_continue)
      pss_nil)
    (pss_cons (ps_set (i := 6) sc_read_book.nd rfl (Or.inl rfl) (C8.pe_c C_sort_of hr (by decide) rfl (pa_cons (pv 5) pa_nil)))
    (pss_cons (ps_if (PW.pt (pw_or (pt_cmpR op_isN (pv 6) pe_non (nomark _)) (pw_or1 (pt_cmp (pc_din hu (pv 6) (pv 1))))))
      (pss_one ps_never)
      pss_nil)
    (pss_one (ps_dput hu (pv 1) (pv 6) (pe_slice sl_list (pv 5) (po_some pe_int) po_none) rfl)))))))
  (pss_cons (ps_if (pt_cmpR op_lt (pe_callB call_lenD (by rfl) T.z_len PySem.boot_len (pa_cons (pv 1) pa_nil)) pe_int (nomark _))
    (pss_one ps_never)
    pss_nil)
  (pss_cons (ps_asg (pe_dget hu (pv 1) pe_str (fun _ _ => rfl)) (pg_unl rfl (pgs_cons (pg_name (i := 7) sc_read_book.nd rfl (Or.inl rfl)) (pgs_cons (pg_name (i := 8) sc_read_book.nd rfl (Or.inl rfl)) pgs_nil))))
  (pss_one (ps_ret (C8.pe_mk C_Book5 hr (by decide) rfl (pa_cons (pv 7) (pa_cons (pv 8) (pa_cons (pe_ix ix_list (pe_dget hu (pv 1) pe_str (fun _ _ => rfl)) pe_int (fun _ _ => rfl)) (pa_cons (pe_ix ix_list (pe_dget hu (pv 1) pe_str (fun _ _ => rfl)) pe_int (fun _ _ => rfl)) (pa_cons (pe_ix ix_list (pe_dget hu (pv 1) pe_str (fun _ _ => rfl)) pe_int (fun _ _ => rfl)) pa_nil)))))))))))))), ?_⟩
  refine ⟨_, rfl, _, _, _, _, _, rfl, .ty _, .base (.str _), kit_ty (r := true) (by decide +kernel), _, rfl, iteF ?_⟩
  intro dt hdt
  have S0 : Same H (upd H dt (.dK [])) := same_up hdt _
  have hd0 : (upd H dt (.dK [])) dt = some (.dK []) := upd_same
  generalize upd H dt (.dK []) = H0 at S0 hd0 ⊢
  refine ⟨_, rfl, ⟨_, rfl⟩, _, _, rfl, rfl, by decide +kernel, few2 hlen, fun rp hrp => ?_⟩
  rw [nl_S, split_at 10 (by decide)]
  have S1 : Same H0 (upd H0 rp (.lst (((cuts 10 l).map SX.S).map V.str))) := same_up hrp _
  have h1 : (upd H0 rp (.lst (((cuts 10 l).map SX.S).map V.str))) rp = some (.lst (((cuts 10 l).map SX.S).map V.str)) := upd_same
  have hd1 := S1 _ _ hd0
  have S01 := S0.trans S1
  have ndr : dt ≠ rp := ne_of_none hd0 hrp
  generalize upd H0 rp (.lst (((cuts 10 l).map SX.S).map V.str)) = H1 at S01 h1 hd1 ⊢
  clear S1
  have hcl := cuts_len 10 l
  refine ⟨fun σ H' => ∃ (v3 v4 v5 v6 v9 : Option V) (kvs : List (Key × V)), σ = [some (.str (SX.S l)), some (.ref dt), some (.ref rp), v3, v4, v5, v6, none, none, v9] ∧ H' dt = some (.dK kvs) ∧ (∀ k : Rk, ∃ p, valV kvs (Sum.inr k.sort) = some (.ref p) ∧ H' p = some (.lst (argB b k))) ∧ kvs.length = 4 ∧ Same H H', ?_, ?_⟩
  · refine ⟨_, rfl, rp, _, rfl, SqL.of h1, ?_⟩
    refine for_enum (K := K) (a := rp) (xs := ((cuts 10 l).map SX.S).map V.str) (fun i σ H' => ∃ (v3 v4 v5 v6 v9 : Option V) (kvs : List (Key × V)) (n : Nat), σ = [some (.str (SX.S l)), some (.ref dt), some (.ref rp), v3, v4, v5, v6, none, none, v9] ∧ H' dt = some (.dK kvs) ∧
      n ≤ 4 ∧ ((((cuts 10 l).take i).map wds).filter fun p => decide (p ≠ [])) = (ks.take n).map (rowL b) ∧ (∀ k ∈ ks.take n, ∃ p, valV kvs (Sum.inr k.sort) = some (.ref p) ∧ H' p = some (.lst (argB b k))) ∧ (∀ k : Rk, k ∉ ks.take n → valV kvs (Sum.inr k.sort) = none) ∧ kvs.length = n ∧
      H' rp = some (.lst (((cuts 10 l).map SX.S).map V.str)) ∧ Same H H') ⟨none, none, none, none, none, [], 0, rfl, hd1, Nat.zero_le _, by simp, fun k hk => (by simp at hk), fun _ _ => rfl, rfl, h1, S01⟩ ?_ ?_ ?_
    · rintro i σ H' _ ⟨_, _, _, _, _, _, _, _, _, _, _, _, _, _, e, _⟩
      exact SqL.of e
    · rintro i x T' σ H2 hi ⟨v3, v4, v5, v6, v9, kvs, n, rfl, hd2, hn4, hpre, hin, hout, hkl, hr2, S2⟩ hT
      rw [List.getElem?_map, List.getElem?_map] at hi
      obtain ⟨rw0, hrw, rfl⟩ := Option.map_eq_some_iff.mp hi
      obtain ⟨r, hrr, rfl⟩ := Option.map_eq_some_iff.mp hrw
      obtain ⟨rm, rl⟩ := cuts_mem 10 l r (List.mem_of_getElem? hrr)
      have S3 : Same H2 (upd H2 T' (.tup [.int (i : Nat), .str (SX.S r)])) := same_up hT _
      have hT3 : (upd H2 T' (.tup [.int (i : Nat), .str (SX.S r)])) T' = some (.tup [.int (i : Nat), .str (SX.S r)]) := upd_same
      generalize upd H2 T' (.tup [.int (i : Nat), .str (SX.S r)]) = H3 at S3 hT3 ⊢
      refine ⟨T', _, rfl, SqT.of hT3, rfl, _, _, rfl, _, _, rfl, rfl, ?_⟩
      refine ⟨_, rfl, ⟨_, rfl⟩, _, _, rfl, rfl, by decide +kernel, few2 (by omega), fun sp hsp => ?_⟩
      rw [sp_S, split_at 32 (by decide)]
      have S4 : Same H3 (upd H3 sp (.lst (((cuts 32 r).map SX.S).map V.str))) := same_up hsp _
      have h4 : (upd H3 sp (.lst (((cuts 32 r).map SX.S).map V.str))) sp = some (.lst (((cuts 32 r).map SX.S).map V.str)) := upd_same
      generalize upd H3 sp (.lst (((cuts 32 r).map SX.S).map V.str)) = H4 at S4 h4 ⊢
      refine ⟨sp, rfl, ⟨_, SqL.of h4⟩, fun D hD => ?_⟩
      have S5 : Same H4 (upd H4 D (.lst [])) := same_up hD _
      have hcl2 := cuts_len 32 r
      refine lc_list (K := K) (a := sp) (xs := ((cuts 32 r).map SX.S).map V.str) (fun j H' => H' D = some (.lst ((((cuts 32 r).take j).filter fun p => decide (p ≠ [])).map fun w => V.str (SX.S w))) ∧ Same H4 H') ⟨upd_same, S5⟩ ?_ ?_ ?_
      · rintro j H' _ ⟨_, e⟩
        exact SqL.of (e _ _ h4)
      · rintro j y H' hj ⟨hacc, e⟩
        have hjl := (List.getElem?_eq_some_iff.mp hj).1
        rw [List.length_map, List.length_map] at hjl
        rw [List.getElem?_map, List.getElem?_map] at hj
        obtain ⟨z0, hz0, rfl⟩ := Option.map_eq_some_iff.mp hj
        obtain ⟨z, hz, rfl⟩ := Option.map_eq_some_iff.mp hz0
        have ht : (cuts 32 r).take (j + 1) = (cuts 32 r).take j ++ [z] := by rw [List.take_succ, hz]; rfl
        refine ⟨rfl, _, rfl, rfl, _, rfl, ?_⟩
        by_cases hz1 : z = []
        · subst hz1
          rw [em_S]
          refine ite2 (fun c => absurd c (by simp)) (fun _ => ⟨?_, e⟩)
          rw [ht, List.filter_append]
          have e0 : ([([] : List Nat)].filter fun p => decide (p ≠ [])) = [] := rfl
          rw [e0, List.append_nil]
          exact hacc
        · have en : (!decide (V.str (SX.S z) = V.str (Str.ofString ""))) = true := by
            rw [em_S, decide_eq_false (fun q => hz1 (S_inj2.mp (V.str.inj q)))]
            rfl
          rw [en]
          refine iteT ?_
          have fl : (((cuts 32 r).take j).filter fun p => decide (p ≠ [])).length ≤ j := Nat.le_trans (List.length_filter_le _ _) (by rw [List.length_take]; omega)
          refine ⟨_, rfl, _, hacc, ?_, ?_, ?_⟩
          · rw [List.length_map]
            exact Nat.lt_of_le_of_lt (Nat.le_trans fl (by omega : j ≤ 20000)) (by decide)
          · rw [upd_same, ht, List.filter_append, List.map_append]
            have e0 : ([z].filter fun p => decide (p ≠ [])) = [z] := by rw [List.filter_cons, if_pos (decide_eq_true hz1)]; rfl
            rw [e0]
            rfl
          · intro c o hc
            rw [upd_ne (ne_of_none hc hD)]
            exact e _ _ hc
      · rintro H5 ⟨hacc, e5⟩
        rw [List.length_map, List.length_map, List.take_length] at hacc
        have hacc : H5 D = some (.lst ((wds r).map fun w => V.str (SX.S w))) := hacc
        have S25 : Same H2 H5 := S3.trans (S4.trans e5)
        have hw : (((cuts 10 l).take (i + 1)).map wds).filter (fun p => decide (p ≠ [])) = (((cuts 10 l).take i).map wds).filter (fun p => decide (p ≠ [])) ++ ([wds r].filter fun p => decide (p ≠ [])) := by
          rw [List.take_succ, hrr, List.map_append, List.filter_append]
          rfl
        refine ⟨_, rfl, by show 0 ≤ sizeLine; decide, fun ep hep => ?_⟩
        have S6 : Same H5 (upd H5 ep (.lst [])) := same_up hep _
        have hD6 := S6 _ _ hacc
        have hep6 : (upd H5 ep (.lst [])) ep = some (.lst (([] : List Str).map V.str)) := upd_same
        have S26 := S25.trans S6
        generalize upd H5 ep (.lst []) = H6 at S26 hD6 hep6 ⊢
        by_cases hwr : wds r = []
        · rw [hwr] at hD6
          have hD6 : H6 D = some (.lst (([] : List Str).map V.str)) := hD6
          obtain ⟨a1, a2⟩ := dps (K := K) (SqL.of hD6) fun x hx => (nomatch hx)
          obtain ⟨b1, b2⟩ := dps (K := K) (SqL.of hep6) fun x hx => (nomatch hx)
          refine ⟨_, _, a1, b1, a2, b2, _, rfl, ?_⟩
          rw [eqv_list, decide_eq_true rfl]
          refine iteT ?_
          refine ⟨_, _, _, _, _, kvs, n, rfl, S26 _ _ hd2, hn4, ?_, fun k hk => ?_, hout, hkl, S26 _ _ hr2, S2.trans S26⟩
          · rw [hw, hwr, hpre]
            have e0 : ([([] : List (List Nat))].filter fun p => decide (p ≠ [])) = [] := rfl
            rw [e0, List.append_nil]
          · obtain ⟨p, h1, h2⟩ := hin k hk
            exact ⟨p, h1, S26 _ _ h2⟩
        · have hw1 : ([wds r].filter fun p => decide (p ≠ [])) = [wds r] := by rw [List.filter_cons, if_pos (decide_eq_true hwr)]; rfl
          have hall : ks.map (rowL b) = (ks.take n).map (rowL b) ++ wds r :: ((((cuts 10 l).drop (i + 1)).map wds).filter fun p => decide (p ≠ [])) := by
            rw [← hrows, ← hpre]
            unfold rowsT
            conv => lhs; rw [← List.take_append_drop (i + 1) (cuts 10 l)]
            rw [List.map_append, List.filter_append, hw, hw1, List.append_assoc]
            rfl
          obtain ⟨k, hkn, hkW, htk⟩ := next_row hall (by omega)
          have hn3 : n < 4 := by
            have := (List.getElem?_eq_some_iff.mp hkn).1
            omega
          have hknot : k ∉ ks.take n := fun hm => by
            obtain ⟨j, hj, e⟩ := List.getElem_of_mem hm
            rw [List.length_take] at hj
            rw [List.getElem_take] at e
            have e2 := (List.getElem?_eq_some_iff.mp hkn).2
            have := (List.getElem_inj hnd).mp (e.trans e2.symm)
            omega
          rw [← hkW, rowL_S] at hD6
          obtain ⟨a1, a2⟩ := dps (K := K) (SqL.of hD6) (row_ok b k)
          obtain ⟨b1, b2⟩ := dps (K := K) (SqL.of hep6) fun x hx => (nomatch hx)
          refine ⟨_, _, a1, b1, a2, b2, _, rfl, ?_⟩
          rw [eqv_list, decide_eq_false (by cases k <;> simp [rowB])]
          refine iteF ?_
          refine ⟨_, rfl, D, b, k, rfl, SqL.of hD6, fun H7 S7 => ?_⟩
          have S27 := S26.trans S7
          have hd7 := S27 _ _ hd2
          refine ⟨_, rfl, rfl, _, rfl, ite2 (fun c => absurd (of_decide_eq_true c) (fun z => V.noConfusion z)) (fun _ => ?_)⟩
          refine ⟨_, rfl, _, rfl, dt, _, rfl, DGet.k (k := Sum.inr k.sort) hd7, _, rfl, ?_⟩
          rw [hout k hknot]
          refine iteF ?_
          refine ⟨_, rfl, _, rfl, D, _, rfl, SqL.of (S7 _ _ hD6), fun vp hvp => ?_⟩
          rw [row_cut]
          have S8 : Same H7 (upd H7 vp (.lst (argB b k))) := same_up hvp _
          have hd8 := S8 _ _ hd7
          refine ⟨_, rfl, _, rfl, dt, _, rfl, DPut.k (k := Sum.inr k.sort) hd8 (small1000 (by omega)), ?_⟩
          have nvd : vp ≠ dt := fun e => ne_of_none hd7 hvp e.symm
          have S28 := S27.trans S8
          have hrd : rp ≠ dt := Ne.symm ndr
          have hv8 : (upd H7 vp (.lst (argB b k))) vp = some (.lst (argB b k)) := upd_same
          generalize upd H7 vp (.lst (argB b k)) = H8 at S28 hd8 hv8 ⊢
          have hmem : ∀ j, j ∈ ks.take (n + 1) ↔ j ∈ ks.take n ∨ j = k := fun j => by
            rw [List.take_succ, hkn]
            simp
          refine ⟨_, _, _, _, _, putK kvs (Sum.inr k.sort) (.ref vp), n + 1, rfl, upd_same, by omega, ?_, fun j hj => ?_, fun j hj => ?_, ?_, ?_, ?_⟩
          · rw [hw, hw1, hpre, htk]
          · rcases (hmem j).mp hj with h | h
            · obtain ⟨p, h1, h2⟩ := hin j h
              have hjk : j ≠ k := fun e => hknot (e ▸ h)
              refine ⟨p, ?_, ?_⟩
              · rw [valV_put, if_neg (fun e => hjk (sort_inj _ _ (Sum.inr.inj e)))]
                exact h1
              · have hp8 := S28 _ _ h2
                rw [upd_ne (ne_of hp8 hd8 (by intro z; cases z))]
                exact hp8
            · rw [h]
              refine ⟨vp, ?_, ?_⟩
              · rw [valV_put, if_pos rfl]
              · rw [upd_ne nvd]
                exact hv8
          · have hj' : j ∉ ks.take n ∧ j ≠ k := ⟨fun h => hj ((hmem j).mpr (.inl h)), fun h => hj ((hmem j).mpr (.inr h))⟩
            rw [valV_put, if_neg (fun e => hj'.2 (sort_inj _ _ (Sum.inr.inj e)))]
            exact hout j hj'.1
          · have e0 : (kvs.any fun kv => decide (kv.1 = Sum.inr k.sort)) = false := by rw [valV_any, hout k hknot]; rfl
            unfold putK
            rw [e0, if_neg Bool.false_ne_true, List.length_append, hkl]
            rfl
          · rw [upd_ne hrd]
            exact S28 _ _ hr2
          · intro c o hc
            rw [upd_ne (ne_of_none hc hdt)]
            exact S28 _ _ (S2 _ _ hc)
    · rintro σ H2 ⟨v3, v4, v5, v6, v9, kvs, n, rfl, hd2, hn4, hpre, hin, hout, hkl, hr2, S2⟩
      rw [List.length_map, List.length_map, List.take_length] at hpre
      have hpre : rowsT l = (ks.take n).map (rowL b) := hpre
      have hn : n = 4 := by
        have e := congrArg List.length (hrows.symm.trans hpre)
        rw [List.length_map, List.length_map, List.length_take, hk4] at e
        omega
      subst hn
      refine ⟨_, _, _, _, _, kvs, rfl, hd2, fun k => hin k ?_, hkl, S2⟩
      rw [List.take_of_length_le (by omega)]
      exact hks.mem_iff.mpr (by cases k <;> decide)
  · rintro σ H2 ⟨v3, v4, v5, v6, v9, kvs, rfl, hd2, hall, hkl, S2⟩
    obtain ⟨p1, g1, h1⟩ := hall .ans
    obtain ⟨p2, g2, h2⟩ := hall .dbt
    obtain ⟨p3, g3, h3⟩ := hall .spk
    obtain ⟨p4, g4, h4⟩ := hall .oth
    have dg : ∀ (k : Rk) (p : Addr), valV kvs (Sum.inr k.sort) = some (.ref p) → DGet H2 dt (.str k.sort) (some (.ref p)) := fun k p e => by
      have z := DGet.k (k := Sum.inr k.sort) hd2
      rw [e] at z
      exact z
    refine ⟨_, rfl, dt, kvs, rfl, hd2, _, _, rfl, rfl, _, rfl, ?_⟩
    rw [hkl]
    refine ite2 (fun c => absurd c (by decide)) (fun _ => ?_)
    refine ⟨_, rfl, dt, _, rfl, dg .ans p1 g1, p1, _, rfl, SqL.of h1, rfl, _, _, rfl, _, _, rfl, rfl, ?_⟩
    refine ⟨_, rfl, _, rfl, _, rfl, dt, _, rfl, dg .dbt p2 g2, p2, _, 0, _, rfl, rfl, SqL.of h2, at_head, _, rfl, dt, _, rfl, dg .spk p3 g3, p3, _, 0, _, rfl, rfl, SqL.of h3, at_head, _, rfl, dt, _, rfl, dg .oth p4 g4, p4, _, 0, _, rfl, rfl, SqL.of h4, at_head, fun x dx hx hdx ne => ?_⟩
    refine ⟨x, dx, _, _, _, _, _, rfl, upd_same, fun H3 hb he => ⟨rfl, ?_⟩⟩
    refine q x H3 (fun c o hc => ?_) (S2.free hx) hb
    have hc2 := S2 _ _ hc
    rw [he c (ne_of_none hc2 hx), upd_ne (ne_of_none hc2 hx), upd_ne (ne_of_none hc2 hdx)]
    exact hc2
end
end TC


namespace TC
open PySem PySem.Spec PyProof.Rows L2
/-! ### the text that is built -/
def rowTx (b : Bk) (k : Rk) : List Nat := TL.joinL [32] (rowL b k)
def allK : List Rk := [.ans, .dbt, .spk, .oth]
theorem rows_tx (b : Bk) : rowsS (rch b.a) (tms b.g) (tms b.d) (rch b.s) (rch b.o) = allK.map fun k => SX.S (rowTx b k) := by
  obtain ⟨a, g, d, s, o⟩ := b
  cases a <;> cases g <;> cases d <;> cases s <;> cases o <;> decide +kernel
theorem row_free (b : Bk) (k : Rk) : ((rowL b k).all fun w => !w.contains 32 && !w.contains 10 && !w.isEmpty && decide (w.length ≤ 8)) = true := by
  obtain ⟨a, g, d, s, o⟩ := b
  cases k <;> cases a <;> cases g <;> cases d <;> cases s <;> cases o <;> decide +kernel
theorem row_word {b : Bk} {k : Rk} {w : List Nat} (h : w ∈ rowL b k) : 32 ∉ w ∧ w ≠ [] ∧ 10 ∉ w ∧ w.length ≤ 8 := by
  have q := List.all_eq_true.mp (row_free b k) w h
  simp only [Bool.and_eq_true, Bool.not_eq_true', decide_eq_true_eq, List.contains_eq_mem, decide_eq_false_iff_not, List.isEmpty_eq_false_iff] at q
  exact ⟨q.1.1.1, q.1.2, q.1.1.2, q.2⟩
theorem row_few (b : Bk) (k : Rk) : (rowL b k).length ≤ 4 := by cases k <;> simp [rowL, rowB]
theorem join_len {z : List Nat} {B : Nat} (hz : z.length ≤ 3) : ∀ ws : List (List Nat), (∀ w ∈ ws, w.length ≤ B) → (TL.joinL z ws).length ≤ ws.length * (B + 3)
  | [], _ => Nat.zero_le _
  | [w], h => by
    have := h w (by simp)
    show w.length ≤ 1 * (B + 3)
    omega
  | w :: w2 :: r, h => by
    have ih := join_len hz (w2 :: r) fun u hu => h u (List.mem_cons_of_mem _ hu)
    have := h w (by simp)
    show (w ++ (z ++ TL.joinL z (w2 :: r))).length ≤ _
    rw [List.length_append, List.length_append]
    simp only [List.length_cons] at ih ⊢
    have e : (r.length + 1 + 1) * (B + 3) = (r.length + 1) * (B + 3) + (B + 3) := Nat.succ_mul _ _
    omega
theorem join_free {z : List Nat} {c : Nat} (hz : c ∉ z) : ∀ ws : List (List Nat), (∀ w ∈ ws, c ∉ w) → c ∉ TL.joinL z ws
  | [], _ => by simp [TL.joinL]
  | [w], h => h w (by simp)
  | w :: w2 :: r, h => by
    have ih := join_free hz (w2 :: r) fun u hu => h u (List.mem_cons_of_mem _ hu)
    show c ∉ w ++ (z ++ TL.joinL z (w2 :: r))
    intro hm
    rcases List.mem_append.mp hm with q | q
    · exact h w (by simp) q
    · rcases List.mem_append.mp q with q | q
      · exact hz q
      · exact ih q
/-- blanks -/
def Bl (z : List Nat) : Prop := ∀ x ∈ z, x = 32
theorem Bl.free {z : List Nat} (h : Bl z) : 10 ∉ z := fun q => by
  have := h _ q
  omega
/-- a row as it is laid: pads, the words with blanks between -/
theorem laid_row {b : Bk} {k : Rk} {p z p2 : List Nat} (hp : Bl p) (hz : Bl z) (hz0 : z ≠ []) (hp2 : Bl p2) : wds (p ++ TL.joinL z (rowL b k) ++ p2) = rowL b k ∧ 10 ∉ p ++ TL.joinL z (rowL b k) ++ p2 := by
  constructor
  · rw [wds_tail _ p2 hp2, wds_blanks _ p hp, wds_join hz0 hz _ fun w hw => ⟨(row_word hw).1, (row_word hw).2.1⟩]
  · intro hm
    rcases List.mem_append.mp hm with q | q
    · rcases List.mem_append.mp q with q | q
      · exact hp.free q
      · exact join_free hz.free _ (fun w hw => (row_word hw).2.2.1) q
    · exact hp2.free q
theorem laid_len {b : Bk} {k : Rk} {p z p2 : List Nat} (hz : z.length ≤ 3) : (p ++ TL.joinL z (rowL b k) ++ p2).length ≤ p.length + 44 + p2.length := by
  have h1 := join_len (B := 8) hz (rowL b k) fun w hw => (row_word hw).2.2.2
  have h2 := row_few b k
  have h3 : (rowL b k).length * (8 + 3) ≤ 4 * 11 := Nat.mul_le_mul_right 11 h2
  rw [List.length_append, List.length_append]
  omega
theorem repl_row (b : Bk) (k : Rk) (z : List Nat) : Txt.replace (SX.S (rowTx b k)) (Str.ofString " ") (SX.S z) = SX.S (TL.joinL z (rowL b k)) := by
  refine TL.ext_tl ?_
  have h := PySem.StrLaws.replace_list (x := SX.S (rowTx b k)) (y := Str.ofString " ") (z := SX.S z) (by decide +kernel)
  have e : (Str.ofString " ").cps.toList = [32] := by decide +kernel
  rw [e] at h
  show (Txt.replace (SX.S (rowTx b k)) (Str.ofString " ") (SX.S z)).cps.toList = TL.joinL z (rowL b k)
  rw [h]
  show PySem.StrLaws.replL [32] z (rowTx b k) = TL.joinL z (rowL b k)
  rw [repl_blank]
  exact repl_join _ fun w hw => (row_word hw).1
/-- what may stand ahead -/
theorem head_rows {z : List Nat} (h : z = [] ∨ z = [32, 32, 10] ∨ z = [10]) (r : List Nat) : rowsT (z ++ r) = rowsT r := by
  rcases h with rfl | rfl | rfl
  · rfl
  · have q := rowsT_app [32, 32] r
    have e : rowsT [32, 32] = [] := by decide +kernel
    rw [e] at q
    exact q
  · have q := rowsT_app [] r
    have e : rowsT [] = [] := by decide +kernel
    rw [e] at q
    exact q
theorem sep_rows {z : List Nat} (h : z = [10] ∨ z = [10, 10] ∨ z = [10, 32, 32, 32, 10]) (a r : List Nat) : rowsT (a ++ z ++ r) = rowsT a ++ rowsT r := by
  have e0 : rowsT [] = [] := by decide +kernel
  have e3 : rowsT [32, 32, 32] = [] := by decide +kernel
  rcases h with rfl | rfl | rfl
  · rw [List.append_assoc]
    exact rowsT_app a r
  · rw [List.append_assoc]
    show rowsT (a ++ 10 :: (10 :: r)) = _
    rw [rowsT_app, show rowsT (10 :: r) = rowsT [] ++ rowsT r from rowsT_app [] r, e0]
    rfl
  · rw [List.append_assoc]
    show rowsT (a ++ 10 :: ([32, 32, 32] ++ 10 :: r)) = _
    rw [rowsT_app, rowsT_app, e3]
    rfl
theorem tail_rows {z : List Nat} (h : z = [] ∨ z = [10] ∨ z = [10, 32, 32]) (a : List Nat) : rowsT (a ++ z) = rowsT a := by
  have e0 : rowsT [] = [] := by decide +kernel
  have e2 : rowsT [32, 32] = [] := by decide +kernel
  rcases h with rfl | rfl | rfl
  · rw [List.append_nil]
  · rw [rowsT_app, e0, List.append_nil]
  · rw [rowsT_app, e2, List.append_nil]
/-- one of the written texts, by its place -/
theorem pick (xs : List Str) {k : Int} (h0 : 0 ≤ k) (h1 : k < (xs.length : Int)) : ∃ z, z ∈ xs ∧ atI (xs.map V.str) k = some (.str z) := by
  have e : k = ((k.toNat : Nat) : Int) := by omega
  have hx : (xs.map V.str)[k.toNat]? = some (.str (xs[k.toNat]'(by omega))) := by rw [List.getElem?_map, List.getElem?_eq_getElem (by omega)] <;> rfl
  have q := atI_nat hx
  rw [← e] at q
  exact ⟨_, List.getElem_mem _, q⟩
theorem pick_head {z : Str} (h : z ∈ ([Str.ofString "", Str.ofString "  \n", Str.ofString "\n"] : List Str)) : ∃ y, z = SX.S y ∧ y.length ≤ 5 ∧ (y = [] ∨ y = [32, 32, 10] ∨ y = [10]) := by
  rcases List.mem_cons.mp h with e | h
  · exact ⟨[], by rw [e]; decide +kernel, by decide, .inl rfl⟩
  · rcases List.mem_cons.mp h with e | h
    · exact ⟨[32, 32, 10], by rw [e]; decide +kernel, by decide, .inr (.inl rfl)⟩
    · exact ⟨[10], by rw [List.mem_singleton.mp h]; decide +kernel, by decide, .inr (.inr rfl)⟩
theorem pick_pad {z : Str} (h : z ∈ ([Str.ofString "", Str.ofString " "] : List Str)) : ∃ y, z = SX.S y ∧ y.length ≤ 5 ∧ Bl y := by
  rcases List.mem_cons.mp h with e | h
  · exact ⟨[], by rw [e]; decide +kernel, by decide, fun x hx => nomatch hx⟩
  · exact ⟨[32], by rw [List.mem_singleton.mp h]; decide +kernel, by decide, fun x hx => List.mem_singleton.mp hx⟩
theorem pick_pad2 {z : Str} (h : z ∈ ([Str.ofString "", Str.ofString "  "] : List Str)) : ∃ y, z = SX.S y ∧ y.length ≤ 5 ∧ Bl y := by
  rcases List.mem_cons.mp h with e | h
  · exact ⟨[], by rw [e]; decide +kernel, by decide, fun x hx => nomatch hx⟩
  · exact ⟨[32, 32], by rw [List.mem_singleton.mp h]; decide +kernel, by decide, fun x hx => by simpa using hx⟩
theorem pick_blk {z : Str} (h : z ∈ ([Str.ofString " ", Str.ofString "  ", Str.ofString "   "] : List Str)) : ∃ y, z = SX.S y ∧ y.length ≤ 3 ∧ y ≠ [] ∧ Bl y := by
  rcases List.mem_cons.mp h with e | h
  · exact ⟨[32], by rw [e]; decide +kernel, by decide, by simp, fun x hx => by simpa using hx⟩
  · rcases List.mem_cons.mp h with e | h
    · exact ⟨[32, 32], by rw [e]; decide +kernel, by decide, by simp, fun x hx => by simpa using hx⟩
    · exact ⟨[32, 32, 32], by rw [List.mem_singleton.mp h]; decide +kernel, by decide, by simp, fun x hx => by simpa using hx⟩
theorem pick_sep {z : Str} (h : z ∈ ([Str.ofString "\n", Str.ofString "\n\n", Str.ofString "\n   \n"] : List Str)) : ∃ y, z = SX.S y ∧ y.length ≤ 5 ∧ (y = [10] ∨ y = [10, 10] ∨ y = [10, 32, 32, 32, 10]) := by
  rcases List.mem_cons.mp h with e | h
  · exact ⟨[10], by rw [e]; decide +kernel, by decide, .inl rfl⟩
  · rcases List.mem_cons.mp h with e | h
    · exact ⟨[10, 10], by rw [e]; decide +kernel, by decide, .inr (.inl rfl)⟩
    · exact ⟨[10, 32, 32, 32, 10], by rw [List.mem_singleton.mp h]; decide +kernel, by decide, .inr (.inr rfl)⟩
theorem pick_tail {z : Str} (h : z ∈ ([Str.ofString "", Str.ofString "\n", Str.ofString "\n  "] : List Str)) : ∃ y, z = SX.S y ∧ y.length ≤ 5 ∧ (y = [] ∨ y = [10] ∨ y = [10, 32, 32]) := by
  rcases List.mem_cons.mp h with e | h
  · exact ⟨[], by rw [e]; decide +kernel, by decide, .inl rfl⟩
  · rcases List.mem_cons.mp h with e | h
    · exact ⟨[10], by rw [e]; decide +kernel, by decide, .inr (.inl rfl)⟩
    · exact ⟨[10, 32, 32], by rw [List.mem_singleton.mp h]; decide +kernel, by decide, .inr (.inr rfl)⟩
theorem pick_rch {k : Int} (h0 : 0 ≤ k) (h1 : k < 2) : ∃ b, atI [V.str "last", .str "any"] k = some (.str (rch b)) := by
  have : k = 0 ∨ k = 1 := by omega
  rcases this with e | e
  · rw [e]; exact ⟨false, rfl⟩
  · rw [e]; exact ⟨true, rfl⟩
theorem pick_tms {k : Int} (h0 : 0 ≤ k) (h1 : k < 2) : ∃ b, atI [V.str "once", .str "often"] k = some (.str (tms b)) := by
  have : k = 0 ∨ k = 1 := by omega
  rcases this with e | e
  · rw [e]; exact ⟨false, rfl⟩
  · rw [e]; exact ⟨true, rfl⟩
/-- the text so far: the rows that are laid, each behind it a line's end -/
def Laid (b : Bk) (tx : List Nat) (done : List Rk) : Prop := ∀ r, rowsT (tx ++ r) = done.map (rowL b) ++ rowsT r
def Whole (b : Bk) (tx : List Nat) (done : List Rk) : Prop := rowsT tx = done.map (rowL b) ∧ ∀ z : List Nat, (z = [] ∨ z = [10] ∨ z = [10, 32, 32]) → rowsT (tx ++ z) = done.map (rowL b)
theorem laid_whole {b : Bk} {tx : List Nat} {done : List Rk} (h : Laid b tx done) {k : Rk} {a : List Nat} (ha : wds a = rowL b k ∧ 10 ∉ a) : Whole b (tx ++ a) (done ++ [k]) := by
  have e : rowsT (tx ++ a) = (done ++ [k]).map (rowL b) := by
    rw [h, rowsT_row ha.2 (by rw [ha.1]; exact rowL_ne b k), ha.1, List.map_append]
    rfl
  exact ⟨e, fun z hz => by rw [tail_rows hz]; exact e⟩
theorem laid_more {b : Bk} {tx : List Nat} {done : List Rk} (h : Laid b tx done) {k : Rk} {a z : List Nat} (ha : wds a = rowL b k ∧ 10 ∉ a) (hz : z = [10] ∨ z = [10, 10] ∨ z = [10, 32, 32, 32, 10]) : Laid b (tx ++ a ++ z) (done ++ [k]) := fun r => by
  rw [sep_rows hz, (laid_whole h ha).1]
end TC


namespace TC
open PySem PySem.Spec PyProof.Rows L2
theorem erase_map {α β : Type} (f : α → β) : ∀ (l : List α) (i : Nat), (l.map f).eraseIdx i = (l.eraseIdx i).map f
  | [], _ => rfl
  | x :: l, 0 => rfl
  | x :: l, i + 1 => by
    show f x :: (l.map f).eraseIdx i = f x :: (l.eraseIdx i).map f
    rw [erase_map f l i]
theorem erase_perm {α : Type} : ∀ (l : List α) (i : Nat) (x : α), l[i]? = some x → l.Perm (x :: l.eraseIdx i)
  | [], _, _, h => by simp at h
  | y :: l, 0, x, h => by
    have e : y = x := by simpa using h
    rw [e]
    exact List.Perm.refl _
  | y :: l, i + 1, x, h => by
    have q := erase_perm l i x (by simpa using h)
    exact (q.cons y).trans (List.Perm.swap x y _)
theorem rowTx_ok (b : Bk) (k : Rk) : PyData.strOk (SX.S (rowTx b k)) = true := by
  obtain ⟨a, g, d, s, o⟩ := b
  cases k <;> cases a <;> cases g <;> cases d <;> cases s <;> cases o <;> decide +kernel
theorem rowTx_len (b : Bk) (k : Rk) : (SX.S (rowTx b k)).length ≤ 44 := by
  rw [SX.S_len]
  have h1 := join_len (z := [32]) (B := 8) (by decide) (rowL b k) fun w hw => (row_word hw).2.2.2
  have h2 := row_few b k
  have h3 : (rowL b k).length * (8 + 3) ≤ 4 * 11 := Nat.mul_le_mul_right 11 h2
  exact Nat.le_trans h1 h3
/-- the while's word -/
structure Loop (b : Bk) (d l t3 rw lp : Addr) (H' : Hp) (tx : List Nat) (js : List Rk) : Prop where
  deal : DealAt H' d l
  told : Mine d l H' t3 ((valsB b).map V.str)
  rows : Mine d l H' rw ((allK.map fun k => SX.S (rowTx b k)).map V.str)
  left : Mine d l H' lp ((js.map fun k => SX.S (rowTx b k)).map V.str)
  n1 : lp ≠ t3
  n2 : lp ≠ rw
theorem Loop.old {b : Bk} {d l t3 rw lp : Addr} {H H' : Hp} {tx tx' : List Nat} {js : List Rk} (L : Loop b d l t3 rw lp H tx js) (D : DealAt H' d l) (o : Old d l H H') : Loop b d l t3 rw lp H' tx' js :=
  ⟨D, L.told.old o, L.rows.old o, L.left.old o, L.n1, L.n2⟩
theorem js_dp {K : PySem.W.Frag} {H : Hp} {p : Addr} {b : Bk} {js : List Rk} (h : H p = some (.lst ((js.map fun k => SX.S (rowTx b k)).map V.str))) : Dp K H (.ref p) (.list ((js.map fun k => SX.S (rowTx b k)).map PyData.str)) ∧ SeqAt.shaped (.list ((js.map fun k => SX.S (rowTx b k)).map PyData.str)) = true :=
  dps (SqL.of h) fun x hx => by
    obtain ⟨k, _, rfl⟩ := List.mem_map.mp hx
    exact rowTx_ok b k
theorem js_nil {b : Bk} {js : List Rk} : ((js.map fun k => SX.S (rowTx b k)) = []) ↔ js = [] := List.map_eq_nil_iff
theorem join_rows (b : Bk) : Txt.join (Str.ofString "\n") (allK.map fun k => SX.S (rowTx b k)) = SX.S (TL.joinL [10] (allK.map (rowTx b))) ∧ rowsT (TL.joinL [10] (allK.map (rowTx b))) = allK.map (rowL b) ∧ (TL.joinL [10] (allK.map (rowTx b))).length ≤ 10000 := by
  have hb : ∀ k, wds (rowTx b k) = rowL b k ∧ 10 ∉ rowTx b k := fun k => by
    have q := laid_row (b := b) (k := k) (p := []) (z := [32]) (p2 := []) (fun x hx => nomatch hx) (fun x hx => List.mem_singleton.mp hx) (by simp) (fun x hx => nomatch hx)
    rw [List.nil_append, List.append_nil] at q
    exact q
  have hr : ∀ k, rowsT (rowTx b k) = [rowL b k] := fun k => by
    rw [rowsT_row (hb k).2 (by rw [(hb k).1]; exact rowL_ne b k), (hb k).1]
  refine ⟨?_, ?_, ?_⟩
  · have e : (allK.map fun k => SX.S (rowTx b k)) = (allK.map (rowTx b)).map SX.S := by rw [List.map_map] <;> rfl
    rw [nl_S, e, SX.join_S]
  · show rowsT (rowTx b .ans ++ 10 :: (rowTx b .dbt ++ 10 :: (rowTx b .spk ++ 10 :: rowTx b .oth))) = _
    rw [rowsT_app, rowsT_app, rowsT_app, hr, hr, hr, hr]
    rfl
  · have h := join_len (z := [10]) (B := 44) (by decide) (allK.map (rowTx b)) fun w hw => by
      obtain ⟨k, _, rfl⟩ := List.mem_map.mp hw
      have := rowTx_len b k
      rwa [SX.S_len] at this
    exact Nat.le_trans h (by show 4 * 47 ≤ 10000; decide)
theorem vals_ok (b : Bk) : ∀ x ∈ valsB b, PyData.strOk x = true := by
  intro x hx
  simp [valsB] at hx
  rcases hx with rfl | rfl | rfl | rfl | rfl
  · exact (sh_rch _).2
  · exact (sh_tms _).2
  · exact (sh_tms _).2
  · exact (sh_rch _).2
  · exact (sh_rch _).2
section
variable {P : Program} {w : World} {K : PySem.W.Frag} {mg : Str → Option Value} {base : Heap} {C : Addr}
theorem ok_law {f : Addr} {fd : FuncData} (TB : BookAt K C) (gB : mg "Book" = some (.ref C)) (F : Fun K "law" "law" s_law f fd) (T : Top w K mg) (C_law_deal : C8.Cal P w K mg base 1 "_law_deal" (spDeal K) []) (C_law_draw : C8.Cal P w K mg base 1 "_law_draw" spDraw [])
    (C_read_book : C8.Cal P w K mg base 3 "read_book" (spRead C) []) (C_show_book : C8.Cal P w K mg base 1 "show_book" (spShow C) []) (C_law_fields : C8.Cal P w K mg base 1 "_law_fields" (spFields K C false) []) (C_same_book : C8.Cal P w K mg base 2 "same_book" (spSameB C) [])
    (C_Book5 : C8.Mak P w K mg base 1 "Book" C (spInit C) []) (C_Book4 : C8.Mak P w K mg base 1 "Book" C (spInit C) [.str "last"]) : FnOk P w K mg base CX0 60 f fd ["_law_script"] (spLaw K) := by
  refine F.ok sc_law (fun vs H Q E h => ?_) (fun cdv A outer s H vs Q E hr h => ?_)
  · obtain ⟨a, ns, rfl, _⟩ := h
    rfl
  have hu := hu_of hr
  obtain ⟨a, ns, rfl, hS, h63, q⟩ := h
  refine ⟨_, (pss_cons (ps_set (i := 1) sc_law.nd rfl (Or.inl rfl) (C8.pe_c C_law_deal hr (by decide) rfl (pa_cons (pv 0) (pa_cons pe_int pa_nil))))
  (pss_lstT (i := 2) sc_law.nd rfl (Or.inl rfl) (pa_cons pe_str pa_nil)
  (psst_cons (PST.of (ps_set (i := 3) sc_law.nd rfl (Or.inl rfl) (pe_lst (pa_cons pe_str (pa_cons pe_str pa_nil)))))
  (psst_cons (PST.of (ps_set (i := 4) sc_law.nd rfl (Or.inl rfl) (pe_lst (pa_cons (pe_ix ix_list (pv 2) (C8.pe_c C_law_draw hr (by decide) rfl (pa_cons (pv 1) (pa_cons pe_int pa_nil))) (fun _ _ => rfl)) (pa_cons (pe_ix ix_list (pv 3) (C8.pe_c C_law_draw hr (by decide) rfl (pa_cons (pv 1) (pa_cons pe_int pa_nil))) (fun _ _ => rfl)) (pa_cons (pe_ix ix_list (pv 3) (C8.pe_c C_law_draw hr (by decide) rfl (pa_cons (pv 1) (pa_cons pe_int pa_nil))) (fun _ _ => rfl)) pa_nil))))))
  (psst_cons (PST.of (ps_set (i := 4) sc_law.nd rfl (Or.inl rfl) (pe_op op_cat (pv 4) (pe_lst (pa_cons (pe_ix ix_list (pv 2) (C8.pe_c C_law_draw hr (by decide) rfl (pa_cons (pv 1) (pa_cons pe_int pa_nil))) (fun _ _ => rfl)) (pa_cons (pe_ix ix_list (pv 2) (C8.pe_c C_law_draw hr (by decide) rfl (pa_cons (pv 1) (pa_cons pe_int pa_nil))) (fun _ _ => rfl)) pa_nil))))))
  (psst_cons (PST.of (ps_set (i := 5) sc_law.nd rfl (Or.inl rfl) (pe_lst (pa_cons (pe_op op_add_str (pe_op op_add_str (pe_op op_add_str pe_str (pe_ix ix_list (pv 4) pe_int (fun _ _ => rfl))) pe_str) (pe_ix ix_list (pv 4) pe_int (fun _ _ => rfl))) (pa_cons (pe_op op_add_str pe_str (pe_ix ix_list (pv 4) pe_int (fun _ _ => rfl))) (pa_cons (pe_op op_add_str pe_str (pe_ix ix_list (pv 4) pe_int (fun _ _ => rfl))) pa_nil))))))
  (psst_cons (PST.of (ps_expr (pe_bm PySem.F.plainAttrs_list PySem.F.slot_list_append PySem.F.type_list_append mt_append (pv 5) (pa_cons (pe_op op_add_str pe_str (pe_ix ix_list (pv 4) pe_int (fun _ _ => rfl))) pa_nil))))
  (psst_cons (PST.of (ps_set (i := 6) sc_law.nd rfl (Or.inl rfl) (pe_callTy call_list_of (by rfl) T.z_list (by decide +kernel) (pa_cons (pv 5) pa_nil))))
  (psst_cons (PST.of (ps_set (i := 7) sc_law.nd rfl (Or.inl rfl) (pe_ix ix_list (pe_lst (pa_cons pe_str (pa_cons pe_str (pa_cons pe_str pa_nil)))) (C8.pe_c C_law_draw hr (by decide) rfl (pa_cons (pv 1) (pa_cons pe_int pa_nil))) (fun _ _ => rfl))))
  (psst_cut (pst_while PassesOwn.never (pt_cmpR (op_neD hr.units) (pv 6) (pe_lst pa_nil) (nomark _))
    (psst_cons (pst_set (i := 8) sc_law.nd rfl (Or.inl rfl) (pet_replL T.unb (pe_bm PySem.F.plainAttrs_list PySem.F.slot_list_pop PySem.F.type_list_pop mt_popAt (pv 6) (pa_cons (C8.pe_c C_law_draw hr (by decide) rfl (pa_cons (pv 1) (pa_cons (pe_callB call_len_seq (by rfl) T.z_len PySem.boot_len (pa_cons (pv 6) pa_nil)) pa_nil))) pa_nil)) (C8.pe_c C_law_draw hr (by decide) rfl (pa_cons (pv 1) (pa_cons pe_int pa_nil)))))
    (PSsT.of (pss_cons (ps_set (i := 7) sc_law.nd rfl (Or.inl rfl) (pe_op op_add_str (pe_op op_add_str (pe_op op_add_str (pv 7) (pe_ix ix_list (pe_lst (pa_cons pe_str (pa_cons pe_str pa_nil))) (C8.pe_c C_law_draw hr (by decide) rfl (pa_cons (pv 1) (pa_cons pe_int pa_nil))) (fun _ _ => rfl))) (pv 8)) (pe_ix ix_list (pe_lst (pa_cons pe_str (pa_cons pe_str pa_nil))) (C8.pe_c C_law_draw hr (by decide) rfl (pa_cons (pv 1) (pa_cons pe_int pa_nil))) (fun _ _ => rfl))))
    (pss_one (ps_if (pt_cmpR (op_neD hr.units) (pv 6) (pe_lst pa_nil) (nomark _))
      (pss_one (ps_set (i := 7) sc_law.nd rfl (Or.inl rfl) (pe_op op_add_str (pv 7) (pe_ix ix_list (pe_lst (pa_cons pe_str (pa_cons pe_str (pa_cons pe_str pa_nil)))) (C8.pe_c C_law_draw hr (by decide) rfl (pa_cons (pv 1) (pa_cons pe_int pa_nil))) (fun _ _ => rfl)))))
      pss_nil))))))
  (PSsT.of (pss_cons (ps_set (i := 9) sc_law.nd rfl (Or.inl rfl) (C8.pe_c C_read_book hr (by decide) rfl (pa_cons (pe_op op_add_str (pv 7) (pe_ix ix_list (pe_lst (pa_cons pe_str (pa_cons pe_str (pa_cons pe_str pa_nil)))) (C8.pe_c C_law_draw hr (by decide) rfl (pa_cons (pv 1) (pa_cons pe_int pa_nil))) (fun _ _ => rfl))) pa_nil)))
  (pss_cons (ps_set (i := 10) sc_law.nd rfl (Or.inl rfl) (C8.pe_mk C_Book5 hr (by decide) rfl (pa_cons (pe_ix ix_list (pv 4) pe_int (fun _ _ => rfl)) (pa_cons (pe_ix ix_list (pv 4) pe_int (fun _ _ => rfl)) (pa_cons (pe_ix ix_list (pv 4) pe_int (fun _ _ => rfl)) (pa_cons (pe_ix ix_list (pv 4) pe_int (fun _ _ => rfl)) (pa_cons (pe_ix ix_list (pv 4) pe_int (fun _ _ => rfl)) pa_nil)))))))
  (pss_cons (ps_if (PW.pt (pw_or (pt_not (pt_val (pe_callB (C8.call_isC TB.ins) (by rfl) T.z_isinstance (by decide +kernel) (pa_cons (pv 9) (pa_cons (pe_glob rfl gB (v := .ref C) rfl) pa_nil))))) (pw_or (pt_cmpR (op_neD hr.units) (C8.pe_c C_law_fields hr (by decide) rfl (pa_cons (pv 9) pa_nil)) (pv 4) (nomark _)) (pw_or1 (pt_cmpR (op_neD hr.units) (C8.pe_c C_law_fields hr (by decide) rfl (pa_cons (pv 10) pa_nil)) (pv 4) (nomark _))))))
    (pss_one (ps_ret pe_bl))
    pss_nil)
  (pss_cons (ps_if (PW.pt (pw_or (pt_cmpR (op_neD hr.units) (pe_fld (C8.pe_mk C_Book4 hr (by decide) rfl (pa_cons (pe_ix ix_list (pv 4) pe_int (fun _ _ => rfl)) (pa_cons (pe_ix ix_list (pv 4) pe_int (fun _ _ => rfl)) (pa_cons (pe_ix ix_list (pv 4) pe_int (fun _ _ => rfl)) (pa_cons (pe_ix ix_list (pv 4) pe_int (fun _ _ => rfl)) pa_nil))))) rfl) pe_str (nomark _)) (pw_or1 (pt_cmpR op_isnot_bl (C8.pe_c C_same_book hr (by decide) rfl (pa_cons (pv 9) (pa_cons (pv 10) pa_nil))) pe_bl (nomark _)))))
    (pss_one (ps_ret pe_bl))
    pss_nil)
  (pss_cons (ps_set (i := 11) sc_law.nd rfl (Or.inl rfl) (C8.pe_mk C_Book5 hr (by decide) rfl (pa_cons (pe_ix ix_list (pv 4) pe_int (fun _ _ => rfl)) (pa_cons (pe_ix ix_list (pv 4) pe_int (fun _ _ => rfl)) (pa_cons (pe_ix ix_list (pv 4) pe_int (fun _ _ => rfl)) (pa_cons (pe_ix ix_list (pv 4) pe_int (fun _ _ => rfl)) (pa_cons (pe_ix ix_list (pv 4) pe_int (fun _ _ => rfl)) pa_nil)))))))
  (pss_cons (ps_set (i := 12) sc_law.nd rfl (Or.inl rfl) (pe_lst (pa_cons (pe_op op_add_str (pe_op op_add_str (pe_op op_add_str pe_str (pe_ix ix_list (pv 4) pe_int (fun _ _ => rfl))) pe_str) (pe_ix ix_list (pv 4) pe_int (fun _ _ => rfl))) (pa_cons (pe_op op_add_str pe_str (pe_ix ix_list (pv 4) pe_int (fun _ _ => rfl))) (pa_cons (pe_op op_add_str pe_str (pe_ix ix_list (pv 4) pe_int (fun _ _ => rfl))) pa_nil)))))
  (pss_cons (ps_if (PW.pt (pw_or (pt_cmpR op_ne (C8.pe_c C_show_book hr (by decide) rfl (pa_cons (pv 9) pa_nil)) (pe_join pe_str (pv 5)) (nomark _)) (pw_or1 (pt_cmpR op_ne (C8.pe_c C_show_book hr (by decide) rfl (pa_cons (pv 11) pa_nil)) (pe_join pe_str (pe_op op_cat (pv 12) (pe_lst (pa_cons (pe_op op_add_str pe_str (pe_ix ix_list (pv 4) pe_int (fun _ _ => rfl))) pa_nil)))) (nomark _)))))
    (pss_one (ps_ret pe_bl))
    pss_nil)
  (pss_one (ps_ret (pe_and (pe_cmpR op_eq (C8.pe_c C_show_book hr (by decide) rfl (pa_cons (pv 9) pa_nil)) (pe_join pe_str (pv 5)) (nomark _)) (pe_one (pe_cmpR (op_eqD hr.units) (C8.pe_c C_law_fields hr (by decide) rfl (pa_cons (C8.pe_c C_read_book hr (by decide) rfl (pa_cons (pe_join pe_str (pv 5)) pa_nil)) pa_nil)) (pv 4) (nomark _)))))))))))))))))))))))), ?_⟩
  refine ⟨_, rfl, a, ns, rfl, hS, h63, fun d l H1 D1 S1 hd0 hl0 => ?_⟩
  refine ⟨by show 2 ≤ sizeLine; decide, fun rp hrp => ?_⟩
  have M2 : Mine d l (upd H1 rp (.lst [.str "last", .str "any"])) rp [.str "last", .str "any"] := Mine.new D1 hrp
  have D2 := D1.same (same_up hrp (.lst [.str "last", .str "any"]))
  generalize upd H1 rp (.lst [.str "last", .str "any"]) = H2 at M2 D2 ⊢
  refine ⟨by show 2 ≤ sizeLine; decide, fun tp htp => ?_⟩
  have N3 : Mine d l (upd H2 tp (.lst [.str "once", .str "often"])) tp [.str "once", .str "often"] := Mine.new D2 htp
  have M3 := M2.old (Old.new (d := d) (l := l) (o := .lst [.str "once", .str "often"]) htp)
  have D3 := D2.same (same_up htp (.lst [.str "once", .str "often"]))
  generalize upd H2 tp (.lst [.str "once", .str "often"]) = H3 at M3 N3 D3 ⊢
  clear D1 D2 M2 S1 hd0 hl0 hS
  refine ⟨_, rfl, _, rfl, d, l, _, rfl, D3, by decide, by decide, fun k1 H4 k10 k11 D4 O4 => ?_⟩
  obtain ⟨ba, ha⟩ := pick_rch k10 k11
  have M4 := M3.old O4
  have N4 := N3.old O4
  refine ⟨rp, _, k1, _, rfl, rfl, SqL.of M4.at_, ha, _, rfl, _, rfl, d, l, _, rfl, D4, by decide, by decide, fun k2 H5 k20 k21 D5 O5 => ?_⟩
  obtain ⟨bg, hg⟩ := pick_tms k20 k21
  have M5 := M4.old O5
  have N5 := N4.old O5
  refine ⟨tp, _, k2, _, rfl, rfl, SqL.of N5.at_, hg, _, rfl, _, rfl, d, l, _, rfl, D5, by decide, by decide, fun k3 H6 k30 k31 D6 O6 => ?_⟩
  obtain ⟨bd, hbd⟩ := pick_tms k30 k31
  have M6 := M5.old O6
  have N6 := N5.old O6
  refine ⟨tp, _, k3, _, rfl, rfl, SqL.of N6.at_, hbd, by show 3 ≤ sizeLine; decide, fun t1 ht1 => ?_⟩
  have Q7 : Mine d l (upd H6 t1 (.lst [.str (rch ba), .str (tms bg), .str (tms bd)])) t1 [.str (rch ba), .str (tms bg), .str (tms bd)] := Mine.new D6 ht1
  have M7 := M6.old (Old.new (d := d) (l := l) (o := .lst [.str (rch ba), .str (tms bg), .str (tms bd)]) ht1)
  have D7 := D6.same (same_up ht1 (.lst [.str (rch ba), .str (tms bg), .str (tms bd)]))
  generalize upd H6 t1 (.lst [.str (rch ba), .str (tms bg), .str (tms bd)]) = H7 at M7 Q7 D7 ⊢
  clear M3 M4 M5 M6 N3 N4 N5 N6 D3 D4 D5 D6 O4 O5 O6
  refine ⟨_, rfl, _, rfl, _, rfl, d, l, _, rfl, D7, by decide, by decide, fun k4 H8 k40 k41 D8 O8 => ?_⟩
  obtain ⟨bs, hbs⟩ := pick_rch k40 k41
  have M8 := M7.old O8
  have Q8 := Q7.old O8
  refine ⟨rp, _, k4, _, rfl, rfl, SqL.of M8.at_, hbs, _, rfl, _, rfl, d, l, _, rfl, D8, by decide, by decide, fun k5 H9 k50 k51 D9 O9 => ?_⟩
  obtain ⟨bo, hbo⟩ := pick_rch k50 k51
  have M9 := M8.old O9
  have Q9 := Q8.old O9
  refine ⟨rp, _, k5, _, rfl, rfl, SqL.of M9.at_, hbo, by show 2 ≤ sizeLine; decide, fun t2 ht2 => ?_⟩
  have R10 : Mine d l (upd H9 t2 (.lst [.str (rch bs), .str (rch bo)])) t2 [.str (rch bs), .str (rch bo)] := Mine.new D9 ht2
  have Q10 := Q9.old (Old.new (d := d) (l := l) (o := .lst [.str (rch bs), .str (rch bo)]) ht2)
  have D10 := D9.same (same_up ht2 (.lst [.str (rch bs), .str (rch bo)]))
  generalize upd H9 t2 (.lst [.str (rch bs), .str (rch bo)]) = H10 at R10 Q10 D10 ⊢
  refine ⟨t1, t2, _, _, rfl, rfl, Q10.at_, R10.at_, by show 5 ≤ sizeLine; decide, fun t3 ht3 => ?_⟩
  have T11 : Mine d l (upd H10 t3 (.lst ([.str (rch ba), .str (tms bg), .str (tms bd)] ++ [.str (rch bs), .str (rch bo)]))) t3 ((valsB ⟨ba, bg, bd, bs, bo⟩).map V.str) := Mine.new D10 ht3
  have D11 := D10.same (same_up ht3 (.lst ([.str (rch ba), .str (tms bg), .str (tms bd)] ++ [.str (rch bs), .str (rch bo)])))
  generalize upd H10 t3 (.lst ([.str (rch ba), .str (tms bg), .str (tms bd)] ++ [.str (rch bs), .str (rch bo)])) = H11 at T11 D11 ⊢
  clear M7 M8 M9 Q7 Q8 Q9 Q10 R10 D7 D8 D9 D10 O8 O9
  have o1 := (sh_rch ba).1
  have o2 := (sh_tms bg).1
  have o3 := (sh_tms bd).1
  have o4 := (sh_rch bs).1
  have o5 := (sh_rch bo).1
  have a1 := len_k1
  have a2 := len_k2
  have a3 := len_k3
  have a4 := len_k4
  have a5 := len_k5
  have at0 : atI ((valsB ⟨ba, bg, bd, bs, bo⟩).map V.str) 0 = some (.str (rch ba)) := atI_nat (j := 0) rfl
  have at1 : atI ((valsB ⟨ba, bg, bd, bs, bo⟩).map V.str) 1 = some (.str (tms bg)) := atI_nat (j := 1) rfl
  have at2 : atI ((valsB ⟨ba, bg, bd, bs, bo⟩).map V.str) 2 = some (.str (tms bd)) := atI_nat (j := 2) rfl
  have at3 : atI ((valsB ⟨ba, bg, bd, bs, bo⟩).map V.str) 3 = some (.str (rch bs)) := atI_nat (j := 3) rfl
  have at4 : atI ((valsB ⟨ba, bg, bd, bs, bo⟩).map V.str) 4 = some (.str (rch bo)) := atI_nat (j := 4) rfl
  have st := SqL.of (K := K) T11.at_
  refine ⟨_, rfl, t3, _, 0, _, rfl, rfl, st, at0, _, _, rfl, rfl, few (by omega), _, _, rfl, rfl, few (by rw [len_app]; omega), _, rfl, t3, _, 1, _, rfl, rfl, st, at1, _, _, rfl, rfl, few (by rw [len_app, len_app]; omega), ?_⟩
  refine ⟨_, rfl, t3, _, 2, _, rfl, rfl, st, at2, _, _, rfl, rfl, few (by omega), _, rfl, t3, _, 3, _, rfl, rfl, st, at3, _, _, rfl, rfl, few (by omega), by show 3 ≤ sizeLine; decide, fun rw0 hrw => ?_⟩
  have R12 : Mine d l (upd H11 rw0 (.lst [.str (Str.ofString "first answers " ++ rch ba ++ Str.ofString " " ++ tms bg), .str (Str.ofString "first doubts " ++ tms bd), .str (Str.ofString "first speaks " ++ rch bs)])) rw0 [.str (Str.ofString "first answers " ++ rch ba ++ Str.ofString " " ++ tms bg), .str (Str.ofString "first doubts " ++ tms bd), .str (Str.ofString "first speaks " ++ rch bs)] := Mine.new D11 hrw
  have T12 := T11.old (Old.new (d := d) (l := l) (o := .lst [.str (Str.ofString "first answers " ++ rch ba ++ Str.ofString " " ++ tms bg), .str (Str.ofString "first doubts " ++ tms bd), .str (Str.ofString "first speaks " ++ rch bs)]) hrw)
  have D12 := D11.same (same_up hrw (.lst [.str (Str.ofString "first answers " ++ rch ba ++ Str.ofString " " ++ tms bg), .str (Str.ofString "first doubts " ++ tms bd), .str (Str.ofString "first speaks " ++ rch bs)]))
  have n12 : rw0 ≠ t3 := fun e => ne_of_none T11.at_ hrw e.symm
  generalize upd H11 rw0 (.lst [.str (Str.ofString "first answers " ++ rch ba ++ Str.ofString " " ++ tms bg), .str (Str.ofString "first doubts " ++ tms bd), .str (Str.ofString "first speaks " ++ rch bs)]) = H12 at R12 T12 D12 ⊢
  refine ⟨_, rfl, .inl ⟨rfl, _, SqL.of R12.at_⟩, _, rfl, t3, _, 4, _, rfl, rfl, SqL.of T12.at_, at4, _, _, rfl, rfl, few (by omega), rw0, _, _, rfl, rfl, R12.at_, by show 3 < sizeLine; decide, ?_⟩
  have hrowsS := rows_tx ⟨ba, bg, bd, bs, bo⟩
  have hr13 : (upd H12 rw0 (.lst ([.str (Str.ofString "first answers " ++ rch ba ++ Str.ofString " " ++ tms bg), .str (Str.ofString "first doubts " ++ tms bd), .str (Str.ofString "first speaks " ++ rch bs)] ++ [.str (Str.ofString "other speaks " ++ rch bo)]))) rw0 = some (.lst ((allK.map fun k => SX.S (rowTx ⟨ba, bg, bd, bs, bo⟩ k)).map V.str)) := by
    rw [← hrowsS]
    exact upd_same
  have R13 : Mine d l (upd H12 rw0 (.lst ([.str (Str.ofString "first answers " ++ rch ba ++ Str.ofString " " ++ tms bg), .str (Str.ofString "first doubts " ++ tms bd), .str (Str.ofString "first speaks " ++ rch bs)] ++ [.str (Str.ofString "other speaks " ++ rch bo)]))) rw0 ((allK.map fun k => SX.S (rowTx ⟨ba, bg, bd, bs, bo⟩ k)).map V.str) := ⟨hr13, R12.nd, R12.nl⟩
  have T13 : Mine d l (upd H12 rw0 (.lst ([.str (Str.ofString "first answers " ++ rch ba ++ Str.ofString " " ++ tms bg), .str (Str.ofString "first doubts " ++ tms bd), .str (Str.ofString "first speaks " ++ rch bs)] ++ [.str (Str.ofString "other speaks " ++ rch bo)]))) t3 ((valsB ⟨ba, bg, bd, bs, bo⟩).map V.str) := ⟨by rw [upd_ne (Ne.symm n12)]; exact T12.at_, T12.nd, T12.nl⟩
  have D13 : DealAt (upd H12 rw0 (.lst ([.str (Str.ofString "first answers " ++ rch ba ++ Str.ofString " " ++ tms bg), .str (Str.ofString "first doubts " ++ tms bd), .str (Str.ofString "first speaks " ++ rch bs)] ++ [.str (Str.ofString "other speaks " ++ rch bo)]))) d l := by
    obtain ⟨s3, n3, left3, g1, g2, g3⟩ := D12
    exact ⟨s3, n3, left3, by rw [upd_ne (Ne.symm R12.nd)]; exact g1, by rw [upd_ne (Ne.symm R12.nl)]; exact g2, g3⟩
  generalize upd H12 rw0 (.lst ([.str (Str.ofString "first answers " ++ rch ba ++ Str.ofString " " ++ tms bg), .str (Str.ofString "first doubts " ++ tms bd), .str (Str.ofString "first speaks " ++ rch bs)] ++ [.str (Str.ofString "other speaks " ++ rch bo)])) = H13 at R13 T13 D13 ⊢
  clear hr13 R12 T12 T11 D12 D11 st
  refine ⟨_, rfl, rw0, _, rfl, .inl (SqL.of R13.at_), fun lp hlp => ?_⟩
  have L14 : Loop ⟨ba, bg, bd, bs, bo⟩ d l t3 rw0 lp (upd H13 lp (.lst ((allK.map fun k => SX.S (rowTx ⟨ba, bg, bd, bs, bo⟩ k)).map V.str))) [] allK :=
    ⟨D13.same (same_up hlp _), T13.old (Old.new hlp), R13.old (Old.new hlp), Mine.new D13 hlp, fun e => ne_of_none T13.at_ hlp e.symm, fun e => ne_of_none R13.at_ hlp e.symm⟩
  generalize upd H13 lp (.lst ((allK.map fun k => SX.S (rowTx ⟨ba, bg, bd, bs, bo⟩ k)).map V.str)) = H14 at L14 ⊢
  clear R13 T13 D13
  generalize hb : (⟨ba, bg, bd, bs, bo⟩ : Bk) = b at L14 hrowsS at0 at1 at2 at3 at4 ⊢
  refine ⟨by show 3 ≤ sizeLine; decide, fun xp hxp => ?_⟩
  have X15 := Mine.new (xs := ([Str.ofString "", Str.ofString "  \n", Str.ofString "\n"].map V.str)) L14.deal hxp
  have L15 := L14.old (tx' := []) (L14.deal.same (same_up hxp (.lst ([Str.ofString "", Str.ofString "  \n", Str.ofString "\n"].map V.str)))) (Old.new hxp)
  refine ⟨_, rfl, d, l, _, rfl, L15.deal, by decide, by decide, fun k6 H16 k60 k61 D16 O16 => ?_⟩
  obtain ⟨z0, hz0, hat0⟩ := pick [Str.ofString "", Str.ofString "  \n", Str.ofString "\n"] k60 k61
  obtain ⟨y0, rfl, ly0, hy0⟩ := pick_head hz0
  have L16 : Loop b d l t3 rw0 lp H16 y0 allK := L15.old D16 O16
  refine ⟨xp, _, k6, _, rfl, rfl, SqL.of (X15.old O16).at_, hat0, ?_⟩
  clear L14 X15 L15 hat0 hz0 O16 D16
  refine ⟨fun σ H' => ∃ (v8 : Option V) (tx : List Nat) (done : List Rk), σ = [some (.ref a), some (.ref d), some (.ref rp), some (.ref tp), some (.ref t3), some (.ref rw0), some (.ref lp), some (.str (SX.S tx)), v8, none, none, none, none] ∧ Loop b d l t3 rw0 lp H' tx [] ∧ done.Perm allK ∧ Whole b tx done ∧ tx.length ≤ 900, ?_, ?_⟩
  · refine ⟨fun m σ H' => ∃ (v8 : Option V) (tx : List Nat) (done js : List Rk), m = js.length ∧ σ = [some (.ref a), some (.ref d), some (.ref rp), some (.ref tp), some (.ref t3), some (.ref rw0), some (.ref lp), some (.str (SX.S tx)), v8, none, none, none, none] ∧ Loop b d l t3 rw0 lp H' tx js ∧ (done ++ js).Perm allK ∧
      (js ≠ [] → Laid b tx done) ∧ (js = [] → Whole b tx done) ∧ tx.length ≤ 10 + 200 * done.length, ⟨4, none, y0, [], allK, rfl, rfl, L16, List.Perm.refl _, fun _ r => head_rows hy0 r, fun e => (nomatch e), by omega⟩, ?_⟩
    rintro m σ H2 ⟨v8, tx, done, js, rfl, rfl, L2, hperm, hlaid, hwhole, htx⟩
    have hcount : done.length + js.length = 4 := by
      have := hperm.length_eq
      rw [List.length_append] at this
      exact this
    refine ⟨_, rfl, by show 0 ≤ sizeLine; decide, fun ep hep => ?_⟩
    have L3 := L2.old (tx' := tx) (L2.deal.same (same_up hep (.lst []))) (Old.new hep)
    have he3 : (upd H2 ep (.lst [])) ep = some (.lst (([] : List Str).map V.str)) := upd_same
    generalize upd H2 ep (.lst []) = H3 at L3 he3 ⊢
    obtain ⟨e1, e2⟩ := js_dp (K := K) L3.left.at_
    obtain ⟨e3, e4⟩ := dps (K := K) (SqL.of he3) fun x hx => (nomatch hx)
    refine ⟨_, _, e1, e3, e2, e4, _, rfl, ?_⟩
    rw [eqv_list]
    by_cases hjs : js = []
    · rw [decide_eq_true (js_nil.mpr hjs)]
      refine iteF ?_
      subst hjs
      rw [List.append_nil] at hperm
      simp only [List.length_nil] at hcount
      exact ⟨v8, tx, done, rfl, L3, hperm, hwhole rfl, by omega⟩
    · rw [decide_eq_false (fun e => hjs (js_nil.mp e))]
      refine iteT ?_
      have hj1 : 1 ≤ js.length := by
        cases js with
        | nil => exact absurd rfl hjs
        | cons x r => simp
      have laid := hlaid hjs
      refine ⟨fun σ' H' => ∃ m', m' < js.length ∧ _, fun _ _ q => q, ?_⟩
      have hll : ((js.map fun k => SX.S (rowTx b k)).map V.str).length = js.length := by rw [List.length_map, List.length_map]
      refine ⟨_, rfl, .inl ⟨rfl, _, SqL.of L3.left.at_⟩, _, rfl, _, rfl, lp, _, rfl, .inl (SqL.of L3.left.at_), d, l, _, rfl, L3.deal, by rw [hll]; omega, by rw [hll]; omega, fun i H4 i0 i1 D4 O4 => ?_⟩
      rw [hll] at i1
      have L4 := L3.old (tx' := tx) D4 O4
      have hil : i.toNat < js.length := by omega
      have hget : ((js.map fun k => SX.S (rowTx b k)).map V.str)[i.toNat]? = some (.str (SX.S (rowTx b js[i.toNat]))) := by
        rw [List.getElem?_map, List.getElem?_map, List.getElem?_eq_getElem hil] <;> rfl
      refine ⟨lp, _, i, i.toNat, _, rfl, rfl, L4.left.at_, by omega, by omega, seqIndex_of i0 (by rw [hll]; exact i1), hget, _, rfl, fun p ob hp => ?_⟩
      have hjk : js[i.toNat]? = some js[i.toNat] := List.getElem?_eq_getElem hil
      generalize js[i.toNat] = k at hjk ⊢
      have hpj := erase_perm js i.toNat k hjk
      rw [erase_map, erase_map]
      have L5 : Loop b d l t3 rw0 lp (upd H4 lp (.lst (((js.eraseIdx i.toNat).map fun k => SX.S (rowTx b k)).map V.str))) tx (js.eraseIdx i.toNat) := by
        refine ⟨?_, ⟨by rw [upd_ne (Ne.symm L4.n1)]; exact L4.told.at_, L4.told.nd, L4.told.nl⟩, ⟨by rw [upd_ne (Ne.symm L4.n2)]; exact L4.rows.at_, L4.rows.nd, L4.rows.nl⟩, ⟨upd_same, L4.left.nd, L4.left.nl⟩, L4.n1, L4.n2⟩
        obtain ⟨s3, n3, left3, g1, g2, g3⟩ := L4.deal
        exact ⟨s3, n3, left3, by rw [upd_ne (Ne.symm L4.left.nd)]; exact g1, by rw [upd_ne (Ne.symm L4.left.nl)]; exact g2, g3⟩
      rw [erase_map, erase_map] at hp
      generalize upd H4 lp (.lst (((js.eraseIdx i.toNat).map fun k => SX.S (rowTx b k)).map V.str)) = H5 at L5 hp ⊢
      have hjl : (js.eraseIdx i.toNat).length + 1 = js.length := by
        have := hpj.length_eq
        simp only [List.length_cons] at this
        omega
      have hperm2 : ((done ++ [k]) ++ js.eraseIdx i.toNat).Perm allK := by
        rw [List.append_assoc]
        exact (List.Perm.append_left done hpj.symm).trans hperm
      generalize js.eraseIdx i.toNat = js2 at L5 hjl hperm2 ⊢
      clear hpj hget hjk L4 L3 L2 e1 e2 e3 e4 he3
      have L6 := L5.old (tx' := tx) (L5.deal.same (same_up hp (.frz ob (.lst [.str " ", .str "  ", .str "   "])))) (Old.new hp)
      have hf6 : (upd H5 p (.frz ob (.lst [.str " ", .str "  ", .str "   "]))) p = some (.frz ob (.lst [.str " ", .str "  ", .str "   "])) := upd_same
      have npd : p ≠ d ∧ p ≠ l := by
        obtain ⟨kv, hd⟩ := L5.deal.dK
        obtain ⟨ys, hl⟩ := L5.deal.lst
        exact ⟨fun e => ne_of_none hd hp e.symm, fun e => ne_of_none hl hp e.symm⟩
      generalize upd H5 p (.frz ob (.lst [.str " ", .str "  ", .str "   "])) = H6 at L6 hf6 ⊢
      refine ⟨_, rfl, d, l, _, rfl, L6.deal, by decide, by decide, fun i2 H7 i20 i21 D7 O7 => ?_⟩
      have L7 := L6.old (tx' := tx) D7 O7
      have hz : ∃ z, z ∈ ([Str.ofString " ", Str.ofString "  ", Str.ofString "   "] : List Str) ∧ ([Str.ofString " ", Str.ofString "  ", Str.ofString "   "] : List Str)[i2.toNat]? = some z := ⟨_, List.getElem_mem _, List.getElem?_eq_getElem (by show i2.toNat < 3; omega)⟩
      obtain ⟨z, hzm, hz⟩ := hz
      obtain ⟨y, rfl, ly, hy1, hy2⟩ := pick_blk hzm
      have rl := rowTx_len b k
      refine ⟨i2.toNat, SX.S y, by rw [show ((i2.toNat : Nat) : Int) = i2 by omega], O7 _ _ hf6 npd.1 npd.2, hz, ?_, ?_⟩
      · rw [SX.S_len y]
        have : ((SX.S (rowTx b k)).length + 1) * y.length ≤ 45 * 3 := Nat.mul_le_mul (by omega) ly
        omega
      rw [repl_row]
      clear hz hzm L6 hf6 L5
      -- the first pad
      refine ⟨_, rfl, by show 2 ≤ sizeLine; decide, fun q1 hq1 => ?_⟩
      have X8 := Mine.new (xs := ([Str.ofString "", Str.ofString " "].map V.str)) L7.deal hq1
      have L8 := L7.old (tx' := tx) (L7.deal.same (same_up hq1 (.lst ([Str.ofString "", Str.ofString " "].map V.str)))) (Old.new hq1)
      refine ⟨_, rfl, d, l, _, rfl, L8.deal, by decide, by decide, fun i3 H9 i30 i31 D9 O9 => ?_⟩
      have L9 := L8.old (tx' := tx) D9 O9
      obtain ⟨z3, hz3, hat3⟩ := pick [Str.ofString "", Str.ofString " "] i30 i31
      obtain ⟨p1, rfl, lp1, bp1⟩ := pick_pad hz3
      have lrow := laid_len (b := b) (k := k) (p := p1) (z := y) (p2 := []) ly
      have lj : (TL.joinL y (rowL b k)).length ≤ 44 := by
        have := laid_len (b := b) (k := k) (p := []) (z := y) (p2 := []) ly
        simpa using this
      refine ⟨q1, _, i3, _, rfl, rfl, SqL.of (X8.old O9).at_, hat3, _, _, rfl, rfl, few (by rw [SX.S_len, SX.S_len]; omega), ?_⟩
      rw [SX.S_cat]
      refine ⟨_, rfl, _, _, rfl, rfl, few (by rw [SX.S_len, SX.S_len, List.length_append]; omega), ?_⟩
      rw [SX.S_cat]
      -- the second pad
      refine ⟨by show 2 ≤ sizeLine; decide, fun q2 hq2 => ?_⟩
      have X10 := Mine.new (xs := ([Str.ofString "", Str.ofString "  "].map V.str)) L9.deal hq2
      have L10 := L9.old (tx' := tx) (L9.deal.same (same_up hq2 (.lst ([Str.ofString "", Str.ofString "  "].map V.str)))) (Old.new hq2)
      refine ⟨_, rfl, d, l, _, rfl, L10.deal, by decide, by decide, fun i4 H11 i40 i41 D11 O11 => ?_⟩
      obtain ⟨z4, hz4, hat4⟩ := pick [Str.ofString "", Str.ofString "  "] i40 i41
      obtain ⟨p2, rfl, lp2, bp2⟩ := pick_pad2 hz4
      refine ⟨q2, _, i4, _, rfl, rfl, SqL.of (X10.old O11).at_, hat4, _, _, rfl, rfl, few (by rw [SX.S_len, SX.S_len, List.length_append, List.length_append]; omega), ?_⟩
      rw [SX.S_cat]
      have etx : tx ++ p1 ++ TL.joinL y (rowL b k) ++ p2 = tx ++ (p1 ++ TL.joinL y (rowL b k) ++ p2) := by simp [List.append_assoc]
      rw [etx]
      have hrow := laid_row (b := b) (k := k) bp1 hy2 hy1 bp2
      have hrl := laid_len (b := b) (k := k) (p := p1) (z := y) (p2 := p2) ly
      generalize p1 ++ TL.joinL y (rowL b k) ++ p2 = rw1 at hrow hrl ⊢
      have L11 := L10.old (tx' := tx ++ rw1) D11 O11
      clear L10 X10 L9 X8 L8 L7 O7 O9 O11 hat3 hat4 hz3 hz4 etx
      have hwh := laid_whole laid hrow
      have hd1 : (done ++ [k]).length = done.length + 1 := by simp
      have hlr : (tx ++ rw1).length ≤ tx.length + 60 := by rw [List.length_append]; omega
      -- the end of the row
      refine ⟨_, rfl, by show 0 ≤ sizeLine; decide, fun ep2 hep2 => ?_⟩
      have L12 := L11.old (tx' := tx ++ rw1) (L11.deal.same (same_up hep2 (.lst []))) (Old.new hep2)
      have he12 : (upd H11 ep2 (.lst [])) ep2 = some (.lst (([] : List Str).map V.str)) := upd_same
      generalize upd H11 ep2 (.lst []) = H12 at L12 he12 ⊢
      obtain ⟨e1, e2⟩ := js_dp (K := K) L12.left.at_
      obtain ⟨e3, e4⟩ := dps (K := K) (SqL.of he12) fun x hx => (nomatch hx)
      refine ⟨_, _, e1, e3, e2, e4, _, rfl, ?_⟩
      rw [eqv_list]
      by_cases hj2 : js2 = []
      · rw [decide_eq_true (js_nil.mpr hj2)]
        refine iteF ?_
        exact ⟨js2.length, by omega, _, tx ++ rw1, done ++ [k], js2, rfl, rfl, L12, hperm2, fun h => absurd hj2 h, fun _ => hwh, by rw [hd1]; omega⟩
      · rw [decide_eq_false (fun e => hj2 (js_nil.mp e))]
        refine iteT ?_
        refine ⟨_, rfl, by show 3 ≤ sizeLine; decide, fun q3 hq3 => ?_⟩
        have X13 := Mine.new (xs := ([Str.ofString "\n", Str.ofString "\n\n", Str.ofString "\n   \n"].map V.str)) L12.deal hq3
        have L13 := L12.old (tx' := tx ++ rw1) (L12.deal.same (same_up hq3 (.lst ([Str.ofString "\n", Str.ofString "\n\n", Str.ofString "\n   \n"].map V.str)))) (Old.new hq3)
        refine ⟨_, rfl, d, l, _, rfl, L13.deal, by decide, by decide, fun i5 H14 i50 i51 D14 O14 => ?_⟩
        obtain ⟨z5, hz5, hat5⟩ := pick [Str.ofString "\n", Str.ofString "\n\n", Str.ofString "\n   \n"] i50 i51
        obtain ⟨y5, rfl, ly5, hy5⟩ := pick_sep hz5
        refine ⟨q3, _, i5, _, rfl, rfl, SqL.of (X13.old O14).at_, hat5, _, _, rfl, rfl, few (by rw [SX.S_len, SX.S_len]; omega), ?_⟩
        rw [SX.S_cat]
        exact ⟨js2.length, by omega, _, tx ++ rw1 ++ y5, done ++ [k], js2, rfl, rfl, L13.old D14 O14, hperm2, fun _ => laid_more laid hrow hy5, fun h => absurd h hj2, by rw [hd1, List.length_append]; omega⟩
  · rintro σ H2 ⟨v8, tx, done, rfl, L2, hperm, hwhole, htx⟩
    clear L16
    subst hb
    have atk := fun (H : Hp) (h : Mine d l H t3 ((valsB ⟨ba, bg, bd, bs, bo⟩).map V.str)) => SqL.of (K := K) h.at_
    refine ⟨_, rfl, by show 3 ≤ sizeLine; decide, fun q1 hq1 => ?_⟩
    have X3 := Mine.new (xs := ([Str.ofString "", Str.ofString "\n", Str.ofString "\n  "].map V.str)) L2.deal hq1
    have L3 := L2.old (tx' := tx) (L2.deal.same (same_up hq1 (.lst ([Str.ofString "", Str.ofString "\n", Str.ofString "\n  "].map V.str)))) (Old.new hq1)
    refine ⟨_, rfl, d, l, _, rfl, L3.deal, by decide, by decide, fun i1 H4 i10 i11 D4 O4 => ?_⟩
    have L4 := L3.old (tx' := tx) D4 O4
    obtain ⟨z1, hz1, hat1⟩ := pick [Str.ofString "", Str.ofString "\n", Str.ofString "\n  "] i10 i11
    obtain ⟨y1, rfl, ly1, hy1⟩ := pick_tail hz1
    refine ⟨q1, _, i1, _, rfl, rfl, SqL.of (X3.old O4).at_, hat1, _, _, rfl, rfl, few (by rw [SX.S_len, SX.S_len]; omega), ?_⟩
    rw [SX.S_cat]
    refine ⟨_, _, done, rfl, by rw [List.length_append]; omega, hperm, hwhole.2 y1 hy1, fun bx H5 S5 hbx hB5 => ?_⟩
    have T5 : H5 t3 = some (.lst ((valsB ⟨ba, bg, bd, bs, bo⟩).map V.str)) := S5 _ _ L4.told.at_
    have R5 : H5 rw0 = some (.lst ((rowsS (rch ba) (tms bg) (tms bd) (rch bs) (rch bo)).map V.str)) := by
      rw [show (rowsS (rch ba) (tms bg) (tms bd) (rch bs) (rch bo)) = _ from hrowsS]
      exact S5 _ _ L4.rows.at_
    have hB5 : HasB H5 C bx (rch ba) (tms bg) (tms bd) (rch bs) (rch bo) := hB5
    clear L2 X3 L3 L4 O4 D4 hat1 hz1 S5 hperm hwhole htx
    have st5 := SqL.of (K := K) T5
    refine ⟨_, rfl, t3, _, 0, _, rfl, rfl, st5, at0, _, rfl, t3, _, 1, _, rfl, rfl, st5, at1, _, rfl, t3, _, 2, _, rfl, rfl, st5, at2, _, rfl, t3, _, 3, _, rfl, rfl, st5, at3, _, rfl, t3, _, 4, _, rfl, rfl, st5, at4, fun mx dx hx hdx ne => ?_⟩
    refine ⟨mx, dx, _, _, _, _, _, rfl, upd_same, fun H6 hB6 hE6 => ⟨rfl, ?_⟩⟩
    have S6 : Same H5 H6 := fun c o hc => by
      rw [hE6 c (ne_of_none hc hx), upd_ne (ne_of_none hc hx), upd_ne (ne_of_none hc hdx)]
      exact hc
    have T6 := S6 _ _ T5
    have R6 := S6 _ _ R5
    have hB56 := hB5.same S6
    clear hE6 S6 T5 R5 st5 hB5 hx hdx
    obtain ⟨bdx, bfs, hbx6, _⟩ := hB56.ex
    refine ⟨_, rfl, bx, bdx, bfs, rfl, hbx6, _, rfl, iteF ?_⟩
    obtain ⟨td6, ts6⟩ := dps (K := K) (SqL.of T6) (vals_ok ⟨ba, bg, bd, bs, bo⟩)
    refine ⟨_, rfl, bx, _, _, _, _, _, rfl, hB56, fun t7 H7 S7 _ h7 => ?_⟩
    have h7 : H7 t7 = some (.lst ((valsB ⟨ba, bg, bd, bs, bo⟩).map V.str)) := h7
    obtain ⟨e1, e2⟩ := dps (K := K) (SqL.of h7) (vals_ok ⟨ba, bg, bd, bs, bo⟩)
    refine ⟨_, rfl, _, _, e1, (dps (K := K) (SqL.of (S7 _ _ T6)) (vals_ok ⟨ba, bg, bd, bs, bo⟩)).1, e2, ts6, _, rfl, ?_⟩
    rw [eqv_list, decide_eq_true rfl]
    refine iteF ?_
    refine ⟨_, rfl, mx, _, _, _, _, _, rfl, hB6.same S7, fun t8 H8 S8 _ h8 => ?_⟩
    have h8 : H8 t8 = some (.lst ((valsB ⟨ba, bg, bd, bs, bo⟩).map V.str)) := h8
    have S78 := S7.trans S8
    refine ⟨_, rfl, _, _, (dps (K := K) (SqL.of h8) (vals_ok ⟨ba, bg, bd, bs, bo⟩)).1, (dps (K := K) (SqL.of (S78 _ _ T6)) (vals_ok ⟨ba, bg, bd, bs, bo⟩)).1, ts6, ts6, _, rfl, ?_⟩
    rw [eqv_list, decide_eq_true rfl]
    refine iteF ?_
    have T8 := S78 _ _ T6
    have R8 := S78 _ _ R6
    have hB8 := hB56.same S78
    have hM8 := hB6.same S78
    clear S7 S8 S78 T6 R6 hB56 hB6 hbx6 e1 e2 h7 h8 td6
    have st8 := SqL.of (K := K) T8
    refine ⟨_, rfl, t3, _, 0, _, rfl, rfl, st8, at0, _, rfl, t3, _, 1, _, rfl, rfl, st8, at1, _, rfl, t3, _, 2, _, rfl, rfl, st8, at2, _, rfl, t3, _, 3, _, rfl, rfl, st8, at3, fun x9 dx9 hx9 hdx9 ne9 => ?_⟩
    refine ⟨x9, dx9, _, _, _, _, _, rfl, upd_same, fun H9 hB9 hE9 => ⟨rfl, ?_⟩⟩
    have S9 : Same H8 H9 := fun c o hc => by
      rw [hE9 c (ne_of_none hc hx9), upd_ne (ne_of_none hc hx9), upd_ne (ne_of_none hc hdx9)]
      exact hc
    obtain ⟨dxx, fsx, hxx, _, _, _, _, f5⟩ := hB9.ex
    refine ⟨x9, C, dxx, fsx, _, rfl, hxx, TB.ins.cl, TB.n5, f5, .str (Str.ofString "last"), .str (Str.ofString "last"), .str _, .str _, by decide +kernel, by decide +kernel, _, rfl, ?_⟩
    rw [show PyData.eqv (.str (Str.ofString "last")) (.str (Str.ofString "last")) = true by simp [PyData.eqv]]
    refine iteF ?_
    have shv : ∀ z ∈ [rch ba, tms bg, tms bd, rch bs, rch bo], Sh z := fun z hz => by
      simp at hz
      rcases hz with rfl | rfl | rfl | rfl | rfl
      · exact sh_rch _
      · exact sh_tms _
      · exact sh_tms _
      · exact sh_rch _
      · exact sh_rch _
    refine ⟨_, rfl, _, rfl, bx, mx, _, _, _, _, _, rfl, hB8.same S9, hM8.same S9, shv, fun H10 S10 => ?_⟩
    refine ⟨_, _, rfl, rfl, _, rfl, ite2 (fun c => absurd c (by decide)) (fun _ => ?_)⟩
    have S810 := S9.trans S10
    have T10 := S810 _ _ T8
    have R10 := S810 _ _ R8
    have hB10 := hB8.same S810
    clear S9 S10 S810 hE9 hxx f5 hB9 hx9 hdx9 T8 R8 st8 hB8 hM8
    have st10 := SqL.of (K := K) T10
    refine ⟨_, rfl, t3, _, 3, _, rfl, rfl, st10, at3, _, rfl, t3, _, 2, _, rfl, rfl, st10, at2, _, rfl, t3, _, 1, _, rfl, rfl, st10, at1, _, rfl, t3, _, 4, _, rfl, rfl, st10, at4, _, rfl, t3, _, 0, _, rfl, rfl, st10, at0, fun ox odx hox hodx one => ?_⟩
    refine ⟨ox, odx, _, _, _, _, _, rfl, upd_same, fun H11 hB11 hE11 => ⟨rfl, ?_⟩⟩
    have S11 : Same H10 H11 := fun c o hc => by
      rw [hE11 c (ne_of_none hc hox), upd_ne (ne_of_none hc hox), upd_ne (ne_of_none hc hodx)]
      exact hc
    have T11 := S11 _ _ T10
    have R11 := S11 _ _ R10
    have hB1 := hB10.same S11
    clear S11 hE11 hox hodx T10 R10 hB10 st10
    have st11 := SqL.of (K := K) T11
    refine ⟨_, rfl, t3, _, 3, _, rfl, rfl, st11, at3, _, _, rfl, rfl, few (by omega), _, _, rfl, rfl, few (by rw [len_app]; omega), _, rfl, t3, _, 2, _, rfl, rfl, st11, at2, _, _, rfl, rfl, few (by rw [len_app, len_app]; omega), ?_⟩
    refine ⟨_, rfl, t3, _, 1, _, rfl, rfl, st11, at1, _, _, rfl, rfl, few (by omega), _, rfl, t3, _, 4, _, rfl, rfl, st11, at4, _, _, rfl, rfl, few (by omega), by show 3 ≤ sizeLine; decide, fun mp hmp => ?_⟩
    have hm12 : (upd H11 mp (.lst [.str (Str.ofString "first answers " ++ rch bs ++ Str.ofString " " ++ tms bd), .str (Str.ofString "first doubts " ++ tms bg), .str (Str.ofString "first speaks " ++ rch bo)])) mp = some (.lst [.str (Str.ofString "first answers " ++ rch bs ++ Str.ofString " " ++ tms bd), .str (Str.ofString "first doubts " ++ tms bg), .str (Str.ofString "first speaks " ++ rch bo)]) := upd_same
    have S12 : Same H11 (upd H11 mp (.lst [.str (Str.ofString "first answers " ++ rch bs ++ Str.ofString " " ++ tms bd), .str (Str.ofString "first doubts " ++ tms bg), .str (Str.ofString "first speaks " ++ rch bo)])) := same_up hmp _
    generalize upd H11 mp (.lst [.str (Str.ofString "first answers " ++ rch bs ++ Str.ofString " " ++ tms bd), .str (Str.ofString "first doubts " ++ tms bg), .str (Str.ofString "first speaks " ++ rch bo)]) = H12 at S12 hm12 ⊢
    refine ⟨_, rfl, bx, _, _, _, _, _, rfl, hB1.same S12, shv, fun H13 S13 => ?_⟩
    have S1213 := S12.trans S13
    refine ⟨⟨_, rfl⟩, _, rfl, _, rw0, _, rfl, rfl, .inl (SqL.of (S1213 _ _ R11)), rows_len o1 o2 o3 o4 o5, rfl, _, rfl, iteNS rfl ?_⟩
    have shv2 : ∀ z ∈ [rch bs, tms bd, tms bg, rch bo, rch ba], Sh z := fun z hz => shv z (by simp at hz ⊢; rcases hz with h | h | h | h | h <;> simp [h])
    refine ⟨_, rfl, ox, _, _, _, _, _, rfl, hB11.same (S1213), shv2, fun H14 S14 => ?_⟩
    have S1214 := S1213.trans S14
    have hm14 := S14 _ _ (S13 _ _ hm12)
    have T14 := S1214 _ _ T11
    refine ⟨⟨_, rfl⟩, _, rfl, _, rfl, t3, _, 0, _, rfl, rfl, SqL.of T14, at0, _, _, rfl, rfl, few (by omega), by show 1 ≤ sizeLine; decide, fun lp2 hlp2 => ?_⟩
    have S15 : Same H14 (upd H14 lp2 (.lst [.str (Str.ofString "other speaks " ++ rch ba)])) := same_up hlp2 _
    refine ⟨mp, lp2, _, _, rfl, rfl, S15 _ _ hm14, upd_same, by show 4 ≤ sizeLine; decide, fun cp hcp => ?_⟩
    have S16 : Same (upd H14 lp2 (.lst [.str (Str.ofString "other speaks " ++ rch ba)])) (upd (upd H14 lp2 (.lst [.str (Str.ofString "other speaks " ++ rch ba)])) cp (.lst ([.str (Str.ofString "first answers " ++ rch bs ++ Str.ofString " " ++ tms bd), .str (Str.ofString "first doubts " ++ tms bg), .str (Str.ofString "first speaks " ++ rch bo)] ++ [.str (Str.ofString "other speaks " ++ rch ba)]))) := same_up hcp _
    have h16 : (upd (upd H14 lp2 (.lst [.str (Str.ofString "other speaks " ++ rch ba)])) cp (.lst ([.str (Str.ofString "first answers " ++ rch bs ++ Str.ofString " " ++ tms bd), .str (Str.ofString "first doubts " ++ tms bg), .str (Str.ofString "first speaks " ++ rch bo)] ++ [.str (Str.ofString "other speaks " ++ rch ba)]))) cp = some (.lst ((rowsS (rch bs) (tms bd) (tms bg) (rch bo) (rch ba)).map V.str)) := upd_same
    have S1216 := S1214.trans (S15.trans S16)
    generalize upd (upd H14 lp2 (.lst [.str (Str.ofString "other speaks " ++ rch ba)])) cp (.lst ([.str (Str.ofString "first answers " ++ rch bs ++ Str.ofString " " ++ tms bd), .str (Str.ofString "first doubts " ++ tms bg), .str (Str.ofString "first speaks " ++ rch bo)] ++ [.str (Str.ofString "other speaks " ++ rch ba)])) = H16 at S1216 h16 ⊢
    refine ⟨_, cp, _, rfl, rfl, .inl (SqL.of h16), rows_len o4 o3 o2 o5 o1, rfl, _, rfl, iteNS rfl ?_⟩
    refine ⟨_, rfl, bx, _, _, _, _, _, rfl, hB1.same S1216, shv, fun H17 S17 => ?_⟩
    have S1217 := S1216.trans S17
    have R17 := S1217 _ _ R11
    refine ⟨⟨_, rfl⟩, _, rfl, _, rw0, _, rfl, rfl, .inl (SqL.of R17), rows_len o1 o2 o3 o4 o5, rfl, _, rfl, ?_⟩
    rw [decide_eq_true rfl]
    refine iteT ?_
    obtain ⟨j1, j2, j3⟩ := join_rows ⟨ba, bg, bd, bs, bo⟩
    refine ⟨⟨_, rfl⟩, _, rfl, _, rw0, _, rfl, rfl, .inl (SqL.of R17), rows_len o1 o2 o3 o4 o5, ?_⟩
    refine ⟨_, ⟨ba, bg, bd, bs, bo⟩, allK, by rw [show (rowsS (rch ba) (tms bg) (tms bd) (rch bs) (rch bo)) = _ from hrowsS, j1]; rfl, j3, List.Perm.refl _, j2, fun nx H18 S18 hnx hB18 => ?_⟩
    refine ⟨nx, _, _, _, _, _, rfl, hB18, fun t19 H19 S19 _ h19 => ?_⟩
    have h19 : H19 t19 = some (.lst ((valsB ⟨ba, bg, bd, bs, bo⟩).map V.str)) := h19
    have T19 := S19 _ _ (S18 _ _ (S1217 _ _ T11))
    refine ⟨_, rfl, _, _, (dps (K := K) (SqL.of h19) (vals_ok ⟨ba, bg, bd, bs, bo⟩)).1, (dps (K := K) (SqL.of T19) (vals_ok ⟨ba, bg, bd, bs, bo⟩)).1, ts6, ts6, ?_⟩
    rw [eqv_list, decide_eq_true rfl]
    exact q H19
end
end TC


namespace TC
open PySem PySem.Spec PyProof.Rows L2
section
variable {P : Program} {w : World} {K : PySem.W.Frag} {mg : Str → Option Value} {base : Heap}
theorem book5 {C : Addr} (B : BookAt K C) (gB : mg "Book" = some (.ref C)) : C8.Mak P w K mg base 1 "Book" C (spInit C) [] := by
  obtain ⟨f, fd, M, F⟩ := B.made
  obtain ⟨ds, v, b⟩ := F.binds1 (ps := ["self", "answers", "again", "doubts", "speaks", "other"]) 6 1 (by simp) rfl fun _ _ _ _ _ _ _ us its h1 h2 => match us, its, h1, h2 with | [_, _, _, _, _, _], [_], _, _ => ⟨_, rfl, rfl⟩
  exact ⟨f, fd, _, ds, M, ok_init B F, gB, b, v⟩
theorem book4 {C : Addr} (B : BookAt K C) (gB : mg "Book" = some (.ref C)) : C8.Mak P w K mg base 1 "Book" C (spInit C) [.str "last"] := by
  obtain ⟨f, fd, M, F⟩ := B.made
  obtain ⟨ds, v, b⟩ := F.binds1 (ps := ["self", "answers", "again", "doubts", "speaks", "other"]) 5 0 (by simp) rfl fun _ _ _ _ _ _ _ us its h1 h2 => match us, its, h1, h2 with | [_, _, _, _, _], [_], _, _ => ⟨_, rfl, rfl⟩
  exact ⟨f, fd, _, ds, M, ok_init B F, gB, b, v⟩
theorem ok_all {f : Addr} {fd : FuncData} (T : Top w K mg) (F : Fun K "law" "law" s_law f fd) : FnOk P w K mg base CX0 60 f fd ["_law_script"] (spLaw K) := by
  obtain ⟨C, gB, B⟩ := T.cB
  have c1 : C8.Cal P w K mg base 1 "_law_deal" (spDeal K) [] := T.d_law_deal.cal fun f fd F => ok_deal F T
  have c2 : C8.Cal P w K mg base 1 "_law_draw" spDraw [] := T.d_law_draw.cal fun f fd F => ok_draw F T
  have c3 : C8.Cal P w K mg base 1 "sort_of" (spSort K) [] := T.d_sort_of.cal fun f fd F => ok_sort F T
  have c4 : C8.Cal P w K mg base 3 "read_book" (spRead C) [] := T.d_read_book.cal fun f fd F => ok_read B F T c3 (book5 B gB)
  have c5 : C8.Cal P w K mg base 1 "show_book" (spShow C) [] := T.d_show_book.cal fun f fd F => ok_show B F
  have c6 : C8.Cal P w K mg base 1 "_law_fields" (spFields K C false) [] := T.d_law_fields.cal fun f fd F => ok_law_fields B F
  have c7 : C8.Cal P w K mg base 1 "fields_of" (spFields K C true) [] := T.d_fields_of.cal fun f fd F => ok_fields B F
  have c8 : C8.Cal P w K mg base 2 "same_book" (spSameB C) [] := T.d_same_book.cal fun f fd F => ok_same_book F c7
  exact ok_law B gB F T c1 c2 c4 c5 c6 c8 (book5 B gB) (book4 B gB)
end
end TC


namespace TC
open PySem PySem.Spec PyProof.Rows L2
section
theorem all_mk {P : Program} {w : World} {K : PySem.W.Frag} {h : Heap} {mg : Str → Option Value} {fa : Addr} (X : K.In h) (G : h.Ns mainGlobals mg) (hfa : mg "law" = some (.ref fa))
    {f0 f1 f2 f3 f4 f5 f6 f7 f8 : Addr} {od0 od1 od2 od3 od4 od5 od6 od7 od8 an0 an1 an2 an3 an4 an5 an6 an7 an8 : Option Addr} {sl0 sl1 sl2 sl3 sl4 sl5 sl6 sl7 sl8 : Array (Option Value)} {oc0 oc1 oc2 oc3 oc4 oc5 oc6 oc7 oc8 kV0 kV1 kV2 kV3 kV4 kV5 kV6 kV7 kV8 dc0 dc1 dc2 dc3 dc4 dc5 dc6 dc7 dc8 pm0 pm1 pm2 pm3 pm4 pm5 pm6 pm7 pm8 cd0 cd1 cd2 cd3 cd4 cd5 cd6 cd7 cd8 ct0 ct1 ct2 ct3 ct4 ct5 ct6 ct7 ct8 : Value} {C bf bT rT tT : Addr} {boc bkV bdc bpm bcd bct btc uc : Value} {bod ban btd rd td ud : Option Addr} {bsl bts rs ts us : Array (Option Value)} {btk rk1 rk2 tk1 tk2 : Tok} {btn rn tn un : Nat} {ue : Array DictEntry}
    (a0 : PySem.W.nsIn K mainGlobals "fields_of" = some (some (.ref f0))) (l0 : K.lookup f0 = some ⟨oc0, od0, .func (PySem.W.fnOf "fields_of" "fields_of" (defArgs s_fields_of) (defBody s_fields_of) (defScope s_fields_of) .none kV0 dc0 pm0 an0 cd0 ct0), sl0⟩) (c0 : PySem.W.codeIn K cd0 "fields_of" = true) (k0 : PySem.W.keepIn K (.ref f0) = true)
    (a1 : PySem.W.nsIn K mainGlobals "same_book" = some (some (.ref f1))) (l1 : K.lookup f1 = some ⟨oc1, od1, .func (PySem.W.fnOf "same_book" "same_book" (defArgs s_same_book) (defBody s_same_book) (defScope s_same_book) .none kV1 dc1 pm1 an1 cd1 ct1), sl1⟩) (c1 : PySem.W.codeIn K cd1 "same_book" = true) (k1 : PySem.W.keepIn K (.ref f1) = true)
    (a2 : PySem.W.nsIn K mainGlobals "sort_of" = some (some (.ref f2))) (l2 : K.lookup f2 = some ⟨oc2, od2, .func (PySem.W.fnOf "sort_of" "sort_of" (defArgs s_sort_of) (defBody s_sort_of) (defScope s_sort_of) .none kV2 dc2 pm2 an2 cd2 ct2), sl2⟩) (c2 : PySem.W.codeIn K cd2 "sort_of" = true) (k2 : PySem.W.keepIn K (.ref f2) = true)
    (a3 : PySem.W.nsIn K mainGlobals "read_book" = some (some (.ref f3))) (l3 : K.lookup f3 = some ⟨oc3, od3, .func (PySem.W.fnOf "read_book" "read_book" (defArgs s_read_book) (defBody s_read_book) (defScope s_read_book) .none kV3 dc3 pm3 an3 cd3 ct3), sl3⟩) (c3 : PySem.W.codeIn K cd3 "read_book" = true) (k3 : PySem.W.keepIn K (.ref f3) = true)
    (a4 : PySem.W.nsIn K mainGlobals "show_book" = some (some (.ref f4))) (l4 : K.lookup f4 = some ⟨oc4, od4, .func (PySem.W.fnOf "show_book" "show_book" (defArgs s_show_book) (defBody s_show_book) (defScope s_show_book) .none kV4 dc4 pm4 an4 cd4 ct4), sl4⟩) (c4 : PySem.W.codeIn K cd4 "show_book" = true) (k4 : PySem.W.keepIn K (.ref f4) = true)
    (a5 : PySem.W.nsIn K mainGlobals "_law_deal" = some (some (.ref f5))) (l5 : K.lookup f5 = some ⟨oc5, od5, .func (PySem.W.fnOf "_law_deal" "_law_deal" (defArgs s_law_deal) (defBody s_law_deal) (defScope s_law_deal) .none kV5 dc5 pm5 an5 cd5 ct5), sl5⟩) (c5 : PySem.W.codeIn K cd5 "_law_deal" = true) (k5 : PySem.W.keepIn K (.ref f5) = true)
    (a6 : PySem.W.nsIn K mainGlobals "_law_draw" = some (some (.ref f6))) (l6 : K.lookup f6 = some ⟨oc6, od6, .func (PySem.W.fnOf "_law_draw" "_law_draw" (defArgs s_law_draw) (defBody s_law_draw) (defScope s_law_draw) .none kV6 dc6 pm6 an6 cd6 ct6), sl6⟩) (c6 : PySem.W.codeIn K cd6 "_law_draw" = true) (k6 : PySem.W.keepIn K (.ref f6) = true)
    (a7 : PySem.W.nsIn K mainGlobals "_law_fields" = some (some (.ref f7))) (l7 : K.lookup f7 = some ⟨oc7, od7, .func (PySem.W.fnOf "_law_fields" "_law_fields" (defArgs s_law_fields) (defBody s_law_fields) (defScope s_law_fields) .none kV7 dc7 pm7 an7 cd7 ct7), sl7⟩) (c7 : PySem.W.codeIn K cd7 "_law_fields" = true) (k7 : PySem.W.keepIn K (.ref f7) = true)
    (a8 : PySem.W.nsIn K mainGlobals "law" = some (some (.ref f8))) (l8 : K.lookup f8 = some ⟨oc8, od8, .func (PySem.W.fnOf "law" "law" (defArgs s_law) (defBody s_law) (defScope s_law) .none kV8 dc8 pm8 an8 cd8 ct8), sl8⟩) (c8 : PySem.W.codeIn K cd8 "law" = true) (k8 : PySem.W.keepIn K (.ref f8) = true)
    (z_len : PySem.W.nsIn K mainGlobals "len" = some none)
    (z_max : PySem.W.nsIn K mainGlobals "max" = some none)
    (z_list : PySem.W.nsIn K mainGlobals "list" = some none)
    (z_reversed : PySem.W.nsIn K mainGlobals "reversed" = some none)
    (z_isinstance : PySem.W.nsIn K mainGlobals "isinstance" = some none)
    (z_enumerate : PySem.W.nsIn K mainGlobals "enumerate" = some none)
    (z_str : PySem.W.nsIn K mainGlobals "str" = some none)
    (x1 : PySem.W.nsIn K mainGlobals "Book" = some (some (.ref C))) (x2 : PySem.W.findIn K (.ref C) "__init__" = some (some (.ref bf))) (x3 : PySem.W.isFn K (.ref bf) = true)
    (x4 : K.lookup bf = some ⟨boc, bod, .func (PySem.W.fnOf "__init__" "Book.__init__" (defArgs s_Book__init) (defBody s_Book__init) (defScope s_Book__init) (.ref bT) bkV bdc bpm ban bcd bct), bsl⟩) (x5 : PySem.W.codeIn K bcd "Book.__init__" = true) (x6 : PySem.W.keepIn K (.ref bf) = true)
    (x7 : K.lookup bT = some ⟨btc, btd, .seq #[.str "last" btk] btn, bts⟩)
    (x8 : PySem.W.plainGet K C Str.empty = true) (x9 : PySem.W.hasDictIn K C = true) (x10 : PySem.W.plainOver K C = true) (x11 : PySem.W.findIn K (.ref C) "__setattr__" = some (some (.builtin "object.__setattr__"))) (x12 : PySem.W.makesIn K C = true) (x13 : PySem.W.keepIn K (.ref C) = true)
    (x14 : PySem.W.findIn K (.ref C) "__class__" = some (some (.builtin "object.__class__"))) (x15 : PySem.W.specialIn K (.builtin "object.__class__") "__get__" = some (some (.builtin "getset_descriptor.__get__"))) (x16 : PySem.W.takesIn K (.builtin "object.__class__") = some true) (x17 : PySem.W.mroIn K C (.type "object") = some true)
    (y0 : PySem.W.findIn K (.ref C) "answers" = some none)
    (y1 : PySem.W.findIn K (.ref C) "again" = some none)
    (y2 : PySem.W.findIn K (.ref C) "doubts" = some none)
    (y3 : PySem.W.findIn K (.ref C) "speaks" = some none)
    (y4 : PySem.W.findIn K (.ref C) "other" = some none)
    (r1 : PySem.W.nsIn K mainGlobals "REACH" = some (some (.ref rT))) (r2 : K.lookup rT = some ⟨.type "tuple", rd, .seq #[.str "last" rk1, .str "any" rk2] rn, rs⟩) (t1 : PySem.W.nsIn K mainGlobals "TIMES" = some (some (.ref tT))) (t2 : K.lookup tT = some ⟨.type "tuple", td, .seq #[.str "once" tk1, .str "often" tk2] tn, ts⟩)
    (u1 : K.lookup cStatics = some ⟨uc, ud, .dict ue un, us⟩) (u2 : StrKeys ue) (u3 : nsFind ue sharingNotToldKey = none)
    : ∃ fd : FuncData, (∀ (s : Shared) (v : Value), BindsTo s fd ⟨[v], []⟩ [("_law_script", v)]) ∧ ∀ base : Heap, K.In base → base.Ns mainGlobals mg → FnOk P w K mg base CX0 60 fa fd ["_law_script"] (spLaw K) := by
  have e := hfa.symm.trans (PySem.W.mg_of X G a8)
  cases e
  have F0 := fun_mk (st := s_fields_of) l0 c0 k0
  have D0 : DefAt K mg "fields_of" s_fields_of ["book"] := ⟨_, _, F0, PySem.W.mg_of X G a0, F0.binds (ps := ["book"]) fun _ _ _ _ _ _ us hl => match us, hl with | [_], _ => rfl⟩
  have F1 := fun_mk (st := s_same_book) l1 c1 k1
  have D1 : DefAt K mg "same_book" s_same_book ["one", "other"] := ⟨_, _, F1, PySem.W.mg_of X G a1, F1.binds (ps := ["one", "other"]) fun _ _ _ _ _ _ us hl => match us, hl with | [_, _], _ => rfl⟩
  have F2 := fun_mk (st := s_sort_of) l2 c2 k2
  have D2 : DefAt K mg "sort_of" s_sort_of ["words"] := ⟨_, _, F2, PySem.W.mg_of X G a2, F2.binds (ps := ["words"]) fun _ _ _ _ _ _ us hl => match us, hl with | [_], _ => rfl⟩
  have F3 := fun_mk (st := s_read_book) l3 c3 k3
  have D3 : DefAt K mg "read_book" s_read_book ["text"] := ⟨_, _, F3, PySem.W.mg_of X G a3, F3.binds (ps := ["text"]) fun _ _ _ _ _ _ us hl => match us, hl with | [_], _ => rfl⟩
  have F4 := fun_mk (st := s_show_book) l4 c4 k4
  have D4 : DefAt K mg "show_book" s_show_book ["book"] := ⟨_, _, F4, PySem.W.mg_of X G a4, F4.binds (ps := ["book"]) fun _ _ _ _ _ _ us hl => match us, hl with | [_], _ => rfl⟩
  have F5 := fun_mk (st := s_law_deal) l5 c5 k5
  have D5 : DefAt K mg "_law_deal" s_law_deal ["_law_script", "_law_base"] := ⟨_, _, F5, PySem.W.mg_of X G a5, F5.binds (ps := ["_law_script", "_law_base"]) fun _ _ _ _ _ _ us hl => match us, hl with | [_, _], _ => rfl⟩
  have F6 := fun_mk (st := s_law_draw) l6 c6 k6
  have D6 : DefAt K mg "_law_draw" s_law_draw ["_law_deal_here", "_law_many"] := ⟨_, _, F6, PySem.W.mg_of X G a6, F6.binds (ps := ["_law_deal_here", "_law_many"]) fun _ _ _ _ _ _ us hl => match us, hl with | [_, _], _ => rfl⟩
  have F7 := fun_mk (st := s_law_fields) l7 c7 k7
  have D7 : DefAt K mg "_law_fields" s_law_fields ["_law_book"] := ⟨_, _, F7, PySem.W.mg_of X G a7, F7.binds (ps := ["_law_book"]) fun _ _ _ _ _ _ us hl => match us, hl with | [_], _ => rfl⟩
  have F8 := fun_mk (st := s_law) l8 c8 k8
  have D8 : DefAt K mg "law" s_law ["_law_script"] := ⟨_, _, F8, PySem.W.mg_of X G a8, F8.binds (ps := ["_law_script"]) fun _ _ _ _ _ _ us hl => match us, hl with | [_], _ => rfl⟩
  have T : Top w K mg :=
    ⟨D0,
      D1,
      D2,
      D3,
      D4,
      D5,
      D6,
      D7,
      D8,
      PySem.W.mg_none_of X G z_len,
      PySem.W.mg_none_of X G z_max,
      PySem.W.mg_none_of X G z_list,
      PySem.W.mg_none_of X G z_reversed,
      PySem.W.mg_none_of X G z_isinstance,
      PySem.W.mg_none_of X G z_enumerate,
      PySem.W.mg_none_of X G z_str,
      ⟨_, PySem.W.mg_of X G x1, ⟨⟨x8, x9, x10, x11⟩, x14, x15, x16, x17, kit_self⟩, ⟨_, _, ⟨x12, x2, x3, x13⟩, ⟨⟨_, _, _, _, _, _, _, _, _, _, rfl, x4, x5, .inr ⟨(fun z => nomatch z), _, _, [.str "last" btk], _, rfl, x7, rfl, .cons ⟨_, rfl⟩ .nil⟩, .inl rfl⟩, x6⟩⟩, y0, y1, y2, y3, y4⟩,
      ⟨_, PySem.W.mg_of X G r1, .inr ⟨_, _, _, r2, rfl, rfl, (by show 2 ≤ sizeLine; decide), .cons ⟨_, rfl⟩ (.cons ⟨_, rfl⟩ .nil)⟩⟩,
      ⟨_, PySem.W.mg_of X G t1, .inr ⟨_, _, _, t2, rfl, rfl, (by show 2 ≤ sizeLine; decide), .cons ⟨_, rfl⟩ (.cons ⟨_, rfl⟩ .nil)⟩⟩,
      ⟨_, _, _, u1, rfl, u2, u3⟩⟩
  exact ⟨_, fun s v => .of_eq rfl, fun base _ _ => ok_all T F8⟩
theorem walk {l : PySem.W.OpenLaw} {q : Program} {loose : List Str} {XP : (Str → Option Value) → Heap → Prop} {YP : World → Heap → Prop} {d : DefRec} {K : Params → PySem.W.Frag} (hn : l.most = some 63) (hdf : d.params.defaults = [])
    (hY : ∀ (w : World) (h : Heap), YP w h → (K w.params).In h)
    (F : ∀ (w : World) (mg : Str → Option Value) (fa : Addr) (h : Heap), (K w.params).In h → h.Ns mainGlobals mg → mg d.name = some (.ref fa) →
      ∃ fd : FuncData, (∀ (s : Shared) (u : Value), BindsTo s fd ⟨[u], []⟩ [("_law_script", u)]) ∧ ∀ base : Heap, (K w.params).In base → base.Ns mainGlobals mg → FnOk l.prog w (K w.params) mg base CX0 60 fa fd ["_law_script"] (spLaw (K w.params))) :
    PySem.W.WalkO q loose XP YP l.row.toRowW d [] (fun f vs => PySem.call f vs) :=
  L2.walk_of (n := 63) (k := 60) (x := "_law_script") (CX := fun _ => CX0) (sp := fun w => spLaw (K w.params)) hn (by decide) hdf ⟨rfl, by decide, by decide⟩ hY F (fun _ _ a ns hl _ hS => ⟨a, ns, rfl, hS, hl, fun _ => rfl⟩) fun _ _ _ _ _ z => z
end
end TC
open PySem PySem.W PyProof.Rows
set_option maxRecDepth 100000 in
set_option maxHeartbeats 0 in
theorem PySem.Challenge.cw_talkcourt_k16_books_read_holds : PySem.Challenge.rw_talkcourt_k16_books_read.Holds := by
  w_on; o_law; k_head; (case hw => w_witness2)
  k_fill
  refine TC.walk (l := PySem.Challenge.rw_talkcourt_k16_books_read) rfl rfl (fun w h Y => PySem.W.kIn_of Y) ?F
  case F =>
    intro w mg fa h KX G hmg
    refine' TC.all_mk KX G hmg ?a0 ?l0 ?c0 ?k0 ?a1 ?l1 ?c1 ?k1 ?a2 ?l2 ?c2 ?k2 ?a3 ?l3 ?c3 ?k3 ?a4 ?l4 ?c4 ?k4 ?a5 ?l5 ?c5 ?k5 ?a6 ?l6 ?c6 ?k6 ?a7 ?l7 ?c7 ?k7 ?a8 ?l8 ?c8 ?k8 ?z_len ?z_max ?z_list ?z_reversed ?z_isinstance ?z_enumerate ?z_str ?x1 ?x2 ?x3 ?x4 ?x5 ?x6 ?x7 ?x8 ?x9 ?x10 ?x11 ?x12 ?x13 ?x14 ?x15 ?x16 ?x17 ?y0 ?y1 ?y2 ?y3 ?y4 ?r1 ?r2 ?t1 ?t2 ?u1 ?u2 ?u3
    (case a0 => k_is); (case l0 => k_is); (case c0 => k_is); (case k0 => k_is)
    (case a1 => k_is); (case l1 => k_is); (case c1 => k_is); (case k1 => k_is)
    (case a2 => k_is); (case l2 => k_is); (case c2 => k_is); (case k2 => k_is)
    (case a3 => k_is); (case l3 => k_is); (case c3 => k_is); (case k3 => k_is)
    (case a4 => k_is); (case l4 => k_is); (case c4 => k_is); (case k4 => k_is)
    (case a5 => k_is); (case l5 => k_is); (case c5 => k_is); (case k5 => k_is)
    (case a6 => k_is); (case l6 => k_is); (case c6 => k_is); (case k6 => k_is)
    (case a7 => k_is); (case l7 => k_is); (case c7 => k_is); (case k7 => k_is)
    (case a8 => k_is); (case l8 => k_is); (case c8 => k_is); (case k8 => k_is)
    (case z_len => k_is)
    (case z_max => k_is)
    (case z_list => k_is)
    (case z_reversed => k_is)
    (case z_isinstance => k_is)
    (case z_enumerate => k_is)
    (case z_str => k_is)
    (case x1 => k_is)
    (case x2 => k_is)
    (case x3 => k_is)
    (case x4 => k_is)
    (case x5 => k_is)
    (case x6 => k_is)
    (case x7 => k_is)
    (case x8 => k_is)
    (case x9 => k_is)
    (case x10 => k_is)
    (case x11 => k_is)
    (case x12 => k_is)
    (case x13 => k_is)
    (case x14 => k_is)
    (case x15 => k_is)
    (case x16 => k_is)
    (case x17 => k_is)
    (case y0 => k_is)
    (case y1 => k_is)
    (case y2 => k_is)
    (case y3 => k_is)
    (case y4 => k_is)
    (case r1 => k_is)
    (case r2 => k_is)
    (case t1 => k_is)
    (case t2 => k_is)
    (case u1 => k_is)
    (case u2 => exact TC.strKeys_by rfl)
    (case u3 => rfl)

